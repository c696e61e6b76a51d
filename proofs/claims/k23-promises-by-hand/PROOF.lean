import PyProof.Rows.All
import Wide.All
import OpenK.AllK
import Wide.FinOn
import HandS.ForMost
import HandS.ForExc
import HandS.Walk
import HandS.IsInst
import HandS.Deep
import HandS.Style
import HandS.Zip
import HandS.SortInts
import HandS.EndBits
import KE.KeyNested
import HandS.ExcIs
import KE.SortData
import KE.DataCmp
import HandS.TupLe
import HandS.Conv
import HandS.Wide
import HandS.Lambda
import HandS.EndTab
import KE.KNest
import KE.KNestM
import KE.IntBitsLaws
import KE.BitLaws
import PySem.Challenge.RW_heapmeld_k23_promises_by_hand
set_option Elab.async false
set_option linter.all false
set_option maxRecDepth 100000
set_option maxHeartbeats 4000000
/-! ### promises of defs that are called where no text is being made -/
namespace VL
open PySem L2
structure FnGd (P : Program) (w : World) (K : PySem.W.Frag) (mg : Str → Option Value) (bs : Heap) (CX : CXT) (k : Nat) (f : Addr) (fd : FuncData) (ps : List Str) (sp : Sp) : Prop where
  ln : ∀ xs H Q E, sp xs H Q E → xs.length = ps.length
  go : ∀ (A : Around) (ou : List Env) (s : Shared) (H : Hp) (ar : Args) (us : List Value) (xs : List V) (Q : VK) (E : XK), A.guards = some [] → Room k A → Env0 P w K mg bs A ou s H → BindsTo s fd ar (ps.zip us) → Vals xs us → sp xs H Q E →
    codeAny (model P w) A (.call (.ref f) ar) (CR CX ou P w H s Q E) s
theorem FnGd.weak {P : Program} {w : World} {K : PySem.W.Frag} {mg : Str → Option Value} {bs : Heap} {CX : CXT} {k : Nat} {f : Addr} {fd : FuncData} {ps : List Str} {sp sp' : Sp} (F : FnGd P w K mg bs CX k f fd ps sp) (h : ∀ xs H Q E, sp' xs H Q E → sp xs H Q E) : FnGd P w K mg bs CX k f fd ps sp' :=
  ⟨fun xs H Q E q => F.ln xs H Q E (h _ _ _ _ q), fun A ou s H ar us xs Q E g r e b v q => F.go A ou s H ar us xs Q E g r e b v (h _ _ _ _ q)⟩
section
variable {X : Cx} {CX : CXT} {k : Nat} {f : Addr} {fd : FuncData} {ps : List Str} {sp : Sp} {E : L2.St → XK} {x : Str} {p pos : Pos} {e : Expr} {es : List Expr} {t : TA}
theorem go_in {pn : List (Addr × Obj)} {σ : L2.St} {H : Hp} {s : Shared} {Q : VK} {us : List Value} {xs : List V} (F : FnGd X.prog X.w X.K X.mg X.base CX k f fd ps sp) (hq : X.A.guards = some []) (hr : Room k X.A) (hb : Binds X.K fd ps []) (hx : PassesAt CX X σ (E σ))
    (I : Inv X pn σ H s) (r : Vals xs us) (h : sp xs H Q (E σ)) : wpAny (model X.prog X.w) X.A (call (.ref f) us) (EP X pn σ Q) X.xe s := by
  have n1 : us.length = ps.length := (r.length).symm.trans (F.ln _ _ _ _ h)
  have n2 : BindsTo s fd ⟨us, []⟩ (ps.zip us) := by
    have n3 := hb s us I.kIn (by rwa [List.append_nil])
    rwa [List.append_nil] at n3
  refine wpAny_call (codeAny_mono (F.go X.A X.stack s H ⟨us, []⟩ us xs Q (E σ) hq hr I.env0 n2 r h) fun z s2 w => ?_)
  rcases z with z | z
  · exact hx pn H s z s2 I w
  · cases z <;> first | exact I.after w | exact w.elim
theorem pe_callG (F : FnGd X.prog X.w X.K X.mg X.base CX k f fd ps sp) (hq : X.A.guards = some []) (hr : Room k X.A) (hg : Gl X x) (hm : X.mg x = some (.ref f)) (hk : PySem.W.keepIn X.K (.ref f) = true) (hb : Binds X.K fd ps []) (hx : ∀ σ, PassesAt CX X σ (E σ))
    (ha : PA X (e :: es) t) (hdb : (x == ("__debug__" : Str)) = false := by decide) (he : starEach (e :: es) X.env = (false, eval e X.env) :: starEach es X.env := by rfl) (hpl : (backTo pos (starEach es X.env)).any (·.1) = false := by rfl) : PE X (.Call (.Name x p) (e :: es) [] pos) (tCallS sp E t) :=
  ⟨fun pn s σ H Q I h => wpAny_Call_Name_kw (ld_glob I hg hm (PySem.W.callWith_K (h₀ := X.base) I.ok.mod.kin hk (thn (ha.run pos pn s σ H _ I h) fun us s1 ⟨xs, H1, I1, r, q⟩ => ⟨I1.kIn, go_in F hq hr hb (hx σ) I1 r q⟩) he hpl) hdb)⟩
theorem pe_callG0 (F : FnGd X.prog X.w X.K X.mg X.base CX k f fd ps sp) (hq : X.A.guards = some []) (hr : Room k X.A) (hg : Gl X x) (hm : X.mg x = some (.ref f)) (hk : PySem.W.keepIn X.K (.ref f) = true) (hb : Binds X.K fd ps []) (hx : ∀ σ, PassesAt CX X σ (E σ))
    (hdb : (x == ("__debug__" : Str)) = false := by decide) : PE X (.Call (.Name x p) [] [] pos) (tCallS sp E tNil) :=
  ⟨fun pn s σ H Q I h => wpAny_Call_Name_kw (ld_glob I hg hm (PySem.W.callWith_K0 I.kIn hk (go_in (us := []) F hq hr hb (hx σ) I .nil h)) hdb)⟩
end
theorem gd_mk {P : Program} {w : World} {K : PySem.W.Frag} {mg : Str → Option Value} {bs : Heap} {x qu : Str} {st : Stmt} {f : Addr} {fd : FuncData} {N ps : List Str} {k : Nat} {sp : Sp} (F : Fun K x qu st f fd) (S : FnScope N ps (defScope st)) (ln : ∀ xs H Q E, sp xs H Q E → xs.length = ps.length)
    (hb : ∀ (cdv : Value) (A : Around) (ou : List Env) (s : Shared) (H : Hp) (xs : List V) (Q : VK) (E : XK), A.guards = some [] → Room k (A.deeper (PyProof.Rows.envOfC qu (defScope st) s.heap.objs.size f cdv)) → sp xs H Q E →
      ∃ t, PSs (cxOf (L2.CX P w) P w K mg bs N qu (defScope st) f cdv A ou s H E) (defBody st) t ∧ t { nx := fun _ H' => Q .non H', rt := Q } (start N xs) H) : FnGd P w K mg bs (L2.CX P w) (k + 1) f fd ps sp := by
  obtain ⟨oc, od, kV, dc, pm, an, cdv, ct, osl, rfl, lk, hcd⟩ := F.ex
  refine ⟨ln, fun A ou s H ar us xs Q E hq hr e0 hbi r hsp => ?_⟩
  have stays : ∀ b o, bs.get? b = some o → s.heap.get? b = some o := fun b o e => (e0.bs b o e).1
  have inK : K.In s.heap := e0.mod.kin.keeps stays
  have kinds : ∀ y ∈ ps.zip us, (defScope st).names.lookup y.1 = some .local ∨ ((defScope st).names.lookup y.1 = some .cell ∧ ((cellsFrom (s.heap.objs.size + 1) (defScope st).names []).lookup y.1).isSome = true) := by
    rintro ⟨n, v⟩ hy
    exact (S.par n (List.of_mem_zip hy).1).imp id fun z => ⟨z, PySem.W.cellsFrom_some _ _ _ (.inl z)⟩
  refine codeAny_call_function hr.depth (inK _ _ lk) rfl S.co S.gen rfl (PySem.W.codeRec_of inK hcd) (hbi _ _ _ _ (wpAny_newFunctionEnv_cells S.kind kinds fun env he s1 nw => ?_))
  subst he
  refine ⟨(e0.mod.nolimit.keeps stays).keeps nw.toInCall.keep, codeAny_func ?_⟩
  obtain ⟨t, ht, w0⟩ := hb cdv A ou s H xs Q E hq (hr.deeper _) hsp
  refine wpAny_mono (ht.run [] s1 (start N xs) H _ (inv_start S hr.hd e0 (ln _ _ _ _ hsp) r nw) w0) (fun fl s2 z => ?_) fun _ _ z => z
  cases fl with
  | ret u => obtain ⟨v, σ2, H2, J, rv, q⟩ := z; exact ⟨v, H2, J.os, J.bare, J.base, J.hok, rv, q⟩
  | next => obtain ⟨σ2, H2, J, q⟩ := z; exact ⟨V.non, H2, J.os, J.bare, J.base, J.hok, rfl, q⟩
  | brk => obtain ⟨_, _, _, q⟩ := z; exact q.elim
  | cont => obtain ⟨_, _, _, q⟩ := z; exact q.elim
/-! ### the end: the law's def is called at the heap behind the top -/
section
open PySem.Spec PyProof.Rows
variable {P : Program} {w : World} {K : PySem.W.Frag} {mg mb : Str → Option Value} {k : Nat} {fa a : Addr} {fd : FuncData} {x : Str} {sp : Sp} {s1 : Shared} {vs : List Value} {ns : List Int}
/-- what is called, and what is due behind it -/
def Due (P : Program) (w : World) (fa a : Addr) (s1 : Shared) : Prop :=
  codeAny (model P w) callerA (.call (.ref fa) ⟨[.ref a], []⟩) (fun r s' => r = .ok (.ret (.bool true)) ∧ OldK s1.heap s'.heap ∧ s'.os = s1.os ∧ AllBare s'.gens) s1
theorem due_of (inK : K.In s1.heap) (hns : s1.heap.Ns mainGlobals mg) (hb : s1.heap.Ns builtinsNs mb) (hbb : ∀ x : Str, x ≠ "__name__" → mb x = bootBuiltins x) (lim : s1.heap.NoLimit) (hg : s1.gens = #[])
    (ha : s1.heap.get? a = some { cls := .type "list", data := .seq vs.toArray }) (hr : Room k callerA) (F : ∀ bs : Heap, K.In bs → FnGd P w K mg bs (L2.CX P w) k fa fd [x] sp) (hbi : ∀ (s : Shared) (u : Value), BindsTo s fd ⟨[u], []⟩ [(x, u)])
    {H : Hp} (on : Only H) (hs : sp [.ref a] H (fun v _ => v = .bl true) fun _ _ _ => False) (ok : HOk P w H s1.heap) (one : ∀ b, H b ≠ none → b = a) (out : H a ≠ none → K.lookup a = none) : Due P w fa a s1 := by
  have free : ∀ {b : Addr}, b ≠ a → H b = none := fun {b} n => Classical.byContradiction fun z => n (one b z)
  have nsB : ∀ {b : Addr} {m : Str → Option Value}, s1.heap.Ns b m → (hidT s1.heap H).Ns b m := by
    rintro b m ⟨o, es, ep, e, d, r⟩
    refine ⟨o, es, ep, hidT_get e (free ?_), d, r⟩
    rintro rfl
    rw [ha] at e
    cases e
    cases d
  have inB : K.In (hidT s1.heap H) := by
    intro b o e
    refine hidT_get (inK b o e) (Classical.byContradiction fun z => ?_)
    have eb := one b z
    subst eb
    rw [out z] at e
    cases e
  obtain ⟨mc, l1, l2⟩ := lim
  have md : Mod K mg (hidT s1.heap H) := ⟨inB, nsB hns, ⟨mb, nsB hb, hbb⟩, mc, nsB l1, l2⟩
  have e0 : Env0 P w K mg (hidT s1.heap H) callerA [] s1 H := ⟨rfl, md, fun _ _ e => of_hidT e, Nat.le_of_eq (hidT_size _ _), trivial, fun b z => absurd (show b ∈ ([] : List Addr) from z) List.not_mem_nil, ok, .of_eq hg⟩
  refine codeAny_mono ((F _ inB).go callerA [] s1 H ⟨[.ref a], []⟩ [.ref a] [.ref a] _ _ rfl hr e0 (hbi s1 (.ref a)) (.cons rfl .nil) hs) fun r s2 z => ?_
  rcases r with r | r
  · obtain ⟨_, _, _, _, _, _, _, _, _, _, _, _, z⟩ := z
    exact z.elim
  · cases r with
    | next => exact z.elim
    | brk => exact z.elim
    | cont => exact z.elim
    | ret u =>
      obtain ⟨v, H2, os, bare, un, ok2, rv, rfl⟩ := z
      obtain rfl : u = Value.bool true := rv
      refine ⟨rfl, OldK.of_keep fun b o e => ?_, os, bare⟩
      rcases on b with n | ⟨ob, xs, n⟩
      · exact un.keep b o e n (fun z => absurd (show b ∈ ([] : List Addr) from z) List.not_mem_nil) (by simp)
      · have g1 := (ok b _ n).1
        have g2 := (ok2 b _ (un.frzs b ob _ n)).1
        exact g2.trans (g1.symm.trans e)
theorem due_all (inK : K.In s1.heap) (hns : s1.heap.Ns mainGlobals mg) (hb : s1.heap.Ns builtinsNs mb) (hbb : ∀ x : Str, x ≠ "__name__" → mb x = bootBuiltins x) (lim : s1.heap.NoLimit) (hg : s1.gens = #[])
    (ha : s1.heap.get? a = some { cls := .type "list", data := .seq vs.toArray }) (hi : IntsAre vs ns) (hl : ns.length ≤ sizeLine) (hr : Room k callerA) (F : ∀ bs : Heap, K.In bs → FnGd P w K mg bs (L2.CX P w) k fa fd [x] sp) (hbi : ∀ (s : Shared) (u : Value), BindsTo s fd ⟨[u], []⟩ [(x, u)])
    (hs : ∀ H : Hp, Only H → SqL K H a (ns.map V.int) → sp [.ref a] H (fun v _ => v = .bl true) fun _ _ _ => False) : Due P w fa a s1 := by
  have rv := vals_ints hi
  have ln := hi.length
  cases q : K.lookup a with
  | some o =>
    have e := ha.symm.trans (inK a o q)
    cases e
    have on : Only (fun _ => none) := fun _ => .inl rfl
    exact due_of inK hns hb hbb lim hg ha hr F hbi on (hs _ on (.inr ⟨_, vs.toArray, _, q, rfl, rfl, rfl, by rw [List.size_toArray, ln]; exact hl, by simpa using rv⟩)) (fun _ _ z => nomatch z) (fun _ z => absurd rfl z) fun z => absurd rfl z
  | none =>
    let o : Obj := { cls := .type "list", data := .seq vs.toArray }
    let H : Hp := fun b => if b = a then some (.frz o (.lst (ns.map V.int))) else none
    have hA : H a = some (.frz o (.lst (ns.map V.int))) := if_pos rfl
    have hN : ∀ {b : Addr}, b ≠ a → H b = none := fun n => if_neg n
    have on : Only H := fun b => (Classical.em (b = a)).elim (fun e => .inr ⟨_, _, e ▸ hA⟩) fun n => .inl (hN n)
    refine due_of inK hns hb hbb lim hg ha hr F hbi on (hs H on (.inl (.inr ⟨o, hA⟩))) (fun b u z => ?_) (fun b z => Classical.byContradiction fun n => z (hN n)) fun _ => q
    by_cases n : b = a
    · subst n
      have e := hA.symm.trans z
      cases e
      exact ⟨ha, by rw [List.length_map]; exact hl, vs, _, rv, ha⟩
    · have e := (hN n).symm.trans z
      cases e
end
end VL
namespace VL
open PySem L2
abbrev D := PyData
/-- a thing of one's own, parts within, too: data that is never changed, a list, a tuple, an object, what is not looked at any more -/
inductive RD where
  | dat (d : D) | lst (rs : List RD) | tup (rs : List RD) | ins (c : Nat) (rs : List RD) | jk | dic (kvs : List (D × Int))
/-- what a name holds: data that is never changed, a list of the def's own, an object with its fields, a thing of one's own -/
inductive SV where
  | sh (d : D) | ow (ds : List D) | ob (c : Nat) (fs : List D) | rg (r : RD)
mutual
@[simp] def RD.toD : RD → Option D
  | .dat d => some d
  | .lst rs => (RD.toDs rs).map .list
  | .tup rs => (RD.toDs rs).map .tuple
  | .ins _ _ => none
  | .jk => none
  | .dic _ => none
@[simp] def RD.toDs : List RD → Option (List D)
  | [] => some []
  | r :: rs => match RD.toD r, RD.toDs rs with
    | some d, some ds => some (d :: ds)
    | _, _ => none
end
/-- as a value that is never changed -/
def RD.fzv : RD → Option SV
  | .ins c rs => if 100 ≤ c then none else (RD.toDs rs).map (.ob c)
  | .dat d => some (.sh d)
  | .lst rs => (RD.toDs rs).map fun ds => .sh (.list ds)
  | .tup rs => (RD.toDs rs).map fun ds => .sh (.tuple ds)
  | .jk => none
  | .dic kvs => some (.ob 103 (kvs.map fun e => .tuple [e.1, .int e.2]))
theorem RD.fzv_of {r : RD} {d : D} (h : r.toD = some d) : r.fzv = some (.sh d) := by
  cases r with
  | dat x => simp only [RD.toD] at h; cases h; simp only [RD.fzv]
  | jk => simp only [RD.toD] at h; cases h
  | ins _ _ => simp only [RD.toD] at h; cases h
  | dic _ => simp only [RD.toD] at h; cases h
  | lst rs =>
    simp only [RD.toD] at h
    obtain ⟨ds, z, rfl⟩ := Option.map_eq_some_iff.mp h
    simp only [RD.fzv, z, Option.map_some]
  | tup rs =>
    simp only [RD.toD] at h
    obtain ⟨ds, z, rfl⟩ := Option.map_eq_some_iff.mp h
    simp only [RD.fzv, z, Option.map_some]
inductive R where
  | val (v : SV) | err (c : Str) | stuck
inductive RL where
  | val (as : List SV) | err (c : Str) | stuck
inductive RI where
  | val (ds : List D) | err (c : Str) | stuck
abbrev VEnv := List (Option SV)
abbrev FE := VEnv → R
abbrev FI := VEnv → RI
inductive SR where
  | nx (e : VEnv) | rt (v : SV) | err (c : Str) | stuck
abbrev FS := VEnv → SR
/-- the classes: of objects by number (address, names of fields), of errors by name -/
structure Ct where
  ad : Nat → Addr
  fl : Nat → List Str
  er : Str → Addr
  xa : Addr := 0
  me : Option Addr := none
  tb : List Addr := []
  fv : Nat → Addr := fun _ => 0
  gc : Hp := fun _ => none

/-! ### data held in a heap -/
theorem same_seqT {K : PySem.W.Frag} {H H' : Hp} {a : Addr} {xs : List V} (e : Same H H') (h : SqT K H a xs) : SqT K H' a xs := by
  rcases h with (h | ⟨o, h⟩) | h
  · exact .inl (.inl (e _ _ h))
  · exact .inl (.inr ⟨o, e _ _ h⟩)
  · exact .inr h
mutual
theorem dp_mono {K : PySem.W.Frag} {G G' : Hp} (e : Same G G') : ∀ (d : D) (v : V), Dp K G v d → Dp K G' v d
  | .none, _, h => by cases h; exact .non
  | .bool b, _, h => by cases h; exact .bl b
  | .int i, _, h => by cases h; exact .int i
  | .str x, _, h => by cases h; exact .str x
  | .list ds, _, h => by
    cases h with
    | lst hs ha => exact .lst (e.seq hs) (dpAll_mono e ds _ ha)
  | .tuple ds, _, h => by
    cases h with
    | tup hs ha => exact .tup (same_seqT e hs) (dpAll_mono e ds _ ha)
  | .dict _, _, h => by cases h
theorem dpAll_mono {K : PySem.W.Frag} {G G' : Hp} (e : Same G G') : ∀ (ds : List D) (vs : List V), DpAll K G vs ds → DpAll K G' vs ds
  | [], _, h => by cases h; exact .nil
  | d :: ds, _, h => by
    cases h with
    | cons h1 h2 => exact .cons (dp_mono e d _ h1) (dpAll_mono e ds _ h2)
end
structure Dq (G : Hp) (v : V) (d : D) : Prop where
  dp : Dp [] G v d
  ok : d.canLay0 = true
structure DqAll (G : Hp) (vs : List V) (ds : List D) : Prop where
  dp : DpAll [] G vs ds
  ok : PyData.canLayAll0 ds = true
section
variable {G G' H H' : Hp} {v : V} {d : D} {vs : List V} {ds : List D}
theorem Dq.mono (h : Dq G v d) (e : Same G G') : Dq G' v d := ⟨dp_mono e d v h.dp, h.ok⟩
theorem DqAll.mono (h : DqAll G vs ds) (e : Same G G') : DqAll G' vs ds := ⟨dpAll_mono e ds vs h.dp, h.ok⟩
theorem DqAll.nil : DqAll G [] [] := ⟨.nil, by simp only [PyData.canLayAll0]⟩
theorem DqAll.cons (h : Dq G v d) (hs : DqAll G vs ds) : DqAll G (v :: vs) (d :: ds) :=
  ⟨.cons h.dp hs.dp, by simp only [PyData.canLayAll0, h.ok, hs.ok, Bool.and_self]⟩
theorem DqAll.inv {d : D} (h : DqAll G vs (d :: ds)) : ∃ v vs', vs = v :: vs' ∧ Dq G v d ∧ DqAll G vs' ds := by
  obtain ⟨h1, h2⟩ := h
  simp only [PyData.canLayAll0, Bool.and_eq_true] at h2
  cases h1 with
  | cons a b => exact ⟨_, _, rfl, ⟨a, h2.1⟩, ⟨b, h2.2⟩⟩
theorem DqAll.inv0 (h : DqAll G vs []) : vs = [] := by
  cases h.dp; rfl
theorem DqAll.length : ∀ {ds : List D} {vs : List V}, DqAll G vs ds → vs.length = ds.length
  | [], _, h => by rw [h.inv0]; rfl
  | _ :: _, _, h => by
    obtain ⟨v, vs', rfl, _, h2⟩ := h.inv
    simp only [List.length_cons, h2.length]
theorem DqAll.get : ∀ {ds : List D} {vs : List V} {i : Nat} {d : D}, DqAll G vs ds → ds[i]? = some d → ∃ v, vs[i]? = some v ∧ Dq G v d
  | [], _, _, _, _, e => by simp at e
  | _ :: _, _, 0, _, h, e => by
    obtain ⟨v, vs', rfl, h1, _⟩ := h.inv
    simp at e; subst e
    exact ⟨v, rfl, h1⟩
  | _ :: _, _, i + 1, d, h, e => by
    obtain ⟨v, vs', rfl, _, h2⟩ := h.inv
    exact DqAll.get (i := i) h2 (by simpa using e)
theorem DqAll.append : ∀ {ds es : List D} {vs ws : List V}, DqAll G vs ds → DqAll G ws es → DqAll G (vs ++ ws) (ds ++ es)
  | [], _, _, _, h, h' => by rw [h.inv0]; exact h'
  | _ :: _, _, _, _, h, h' => by
    obtain ⟨v, vs', rfl, h1, h2⟩ := h.inv
    exact .cons h1 (h2.append h')
theorem DqAll.take : ∀ {ds : List D} {vs : List V} (n : Nat), DqAll G vs ds → DqAll G (vs.take n) (ds.take n)
  | _, _, 0, _ => by simp; exact .nil
  | [], _, n + 1, h => by rw [h.inv0]; simp; exact .nil
  | _ :: _, _, n + 1, h => by
    obtain ⟨v, vs', rfl, h1, h2⟩ := h.inv
    exact .cons h1 (h2.take n)
theorem DqAll.drop : ∀ {ds : List D} {vs : List V} (n : Nat), DqAll G vs ds → DqAll G (vs.drop n) (ds.drop n)
  | _, _, 0, h => h
  | [], _, n + 1, h => by rw [h.inv0]; simp; exact .nil
  | _ :: _, _, n + 1, h => by
    obtain ⟨v, vs', rfl, h1, h2⟩ := h.inv
    exact h2.drop n
theorem DqAll.reverse : ∀ {ds : List D} {vs : List V}, DqAll G vs ds → DqAll G vs.reverse ds.reverse
  | [], _, h => by rw [h.inv0]; exact .nil
  | _ :: _, _, h => by
    obtain ⟨v, vs', rfl, h1, h2⟩ := h.inv
    rw [List.reverse_cons, List.reverse_cons]
    exact h2.reverse.append (.cons h1 .nil)
theorem Dq.tup {a : Addr} {xs : List V} (h : SqT [] G a xs) (hs : DqAll G xs ds) : Dq G (.ref a) (.tuple ds) := ⟨.tup h hs.dp, by simp only [PyData.canLay0, hs.ok]⟩
theorem Dq.lst {a : Addr} {xs : List V} (h : SqL [] G a xs) (hs : DqAll G xs ds) : Dq G (.ref a) (.list ds) := ⟨.lst h hs.dp, by simp only [PyData.canLay0, hs.ok]⟩
theorem Dq.tupInv (h : Dq G v (.tuple ds)) : ∃ a xs, v = .ref a ∧ SqT [] G a xs ∧ DqAll G xs ds := by
  obtain ⟨h1, h2⟩ := h
  simp only [PyData.canLay0] at h2
  cases h1 with
  | tup a b => exact ⟨_, _, rfl, a, ⟨b, h2⟩⟩
theorem Dq.lstInv (h : Dq G v (.list ds)) : ∃ a xs, v = .ref a ∧ SqL [] G a xs ∧ DqAll G xs ds := by
  obtain ⟨h1, h2⟩ := h
  simp only [PyData.canLay0] at h2
  cases h1 with
  | lst a b => exact ⟨_, _, rfl, a, ⟨b, h2⟩⟩
theorem Dq.int {i : Int} : Dq G (.int i) (.int i) := ⟨.int i, by simp only [PyData.canLay0]⟩
theorem Dq.bl {b : Bool} : Dq G (.bl b) (.bool b) := ⟨.bl b, by simp only [PyData.canLay0]⟩
theorem Dq.non : Dq G .non .none := ⟨.non, by simp only [PyData.canLay0]⟩
theorem Dq.intInv {i : Int} (h : Dq G v (.int i)) : v = .int i := by cases h.dp; rfl
theorem Dq.blInv {b : Bool} (h : Dq G v (.bool b)) : v = .bl b := by cases h.dp; rfl
theorem Dq.strInv {x : Str} (h : Dq G v (.str x)) : v = .str x := by cases h.dp; rfl
theorem Dq.nonInv (h : Dq G v .none) : v = .non := by cases h.dp; rfl
end

/-! ### what is remembered: a table of counts that defs hand on and fill -/
def manyF : Nat → Nat → Nat → Nat
  | 0, _, _ => 0
  | n + 1, ks, rk => if ks = 0 ∨ rk = 0 then (if ks = rk then 1 else 0) else if ks < 2 ^ rk - 1 then 0 else
    ((List.range ks).map fun lf => manyF n (ks - 1 - lf) (rk - 1) * ((List.range 8).map fun he => if rk - 1 ≤ he ∧ 2 ^ he - 1 ≤ lf then manyF n lf he else 0).sum).sum
def manyN (ks rk : Nat) : Nat := manyF (ks + 1) ks rk
def MemK (kvs : List (List Key × V)) : Prop := (kvs.map (·.1)).Nodup ∧ ∀ p ∈ kvs, ∃ a b : Nat, a ≤ 40 ∧ b ≤ 40 ∧ p.1 = [.inl (a : Int), .inl (b : Int)] ∧ p.2 = .int (manyN a b : Nat)
/-- such a table, or the table of a def's code objects -/
def Mem : HO → Prop
  | .dT kvs => MemK kvs
  | .tbl _ => True
  | .frz _ (.own _) => True
  | _ => False
/-- a code object -/
def CdO (o : Obj) : Prop := ∃ (vs : Array Value) (q : Str) (t : Tok), o.data = .fields vs ∧ vs[1]? = some (.str q t)
/-- a table all of whose code objects are known -/
def Good (H : Hp) (ps : Array Value) : Prop := PySem.TriplesOk ps.toList ∧ ∀ (pos : Pos) (cv : Value), codeAmong pos ps.toList = some cv → ∃ c oc a, cv = .ref c ∧ H c = some (.frz oc (.own a)) ∧ CdO oc
/-- what is known as it is stays -/
def Frzs (H H' : Hp) : Prop := ∀ c oc u, H c = some (.frz oc u) → H' c = some (.frz oc u)
def MR (H H' : Hp) (o o' : HO) : Prop := (∃ a b, o = .dT a ∧ o' = .dT b) ∨ ∃ ps ps', o = .tbl ps ∧ o' = .tbl ps' ∧ (Good H ps → Good H' ps')
/-- the same, but for such tables -/
def SameH (H H' : Hp) : Prop := ∀ b o, H b = some o → ∃ o', H' b = some o' ∧ (o' = o ∨ (Mem o ∧ Mem o' ∧ MR H H' o o'))
theorem Good.mono {H H' : Hp} {ps : Array Value} (g : Good H ps) (k : Frzs H H') : Good H' ps := ⟨g.1, fun pos cv e => by
  obtain ⟨c, oc, u, e1, e2, e3⟩ := g.2 pos cv e
  exact ⟨c, oc, u, e1, k c oc _ e2, e3⟩⟩
theorem SameH.code {H H' : Hp} (s : SameH H H') : Frzs H H' := fun c oc u h => by
  obtain ⟨o', e, z⟩ := s c _ h
  rcases z with rfl | ⟨_, _, ⟨_, _, z, _⟩ | ⟨_, _, z, _⟩⟩
  · exact e
  · cases z
  · cases z
theorem MR.pre {H H1 H2 : Hp} (s : SameH H H1) {o o' : HO} (h : MR H1 H2 o o') : MR H H2 o o' := h.imp id fun ⟨ps, ps', e1, e2, g⟩ => ⟨ps, ps', e1, e2, fun z => g (z.mono s.code)⟩
theorem MR.post {H H1 H2 : Hp} (s : Frzs H1 H2) {o o' : HO} (h : MR H H1 o o') : MR H H2 o o' := h.imp id fun ⟨ps, ps', e1, e2, g⟩ => ⟨ps, ps', e1, e2, fun z => (g z).mono s⟩
theorem MR.trans {H H1 H2 : Hp} {o o1 o2 : HO} (h : MR H H1 o o1) (h' : MR H1 H2 o1 o2) : MR H H2 o o2 := by
  rcases h with ⟨a, b, rfl, rfl⟩ | ⟨ps, ps', rfl, rfl, g⟩
  · rcases h' with ⟨c, d, e, rfl⟩ | ⟨_, _, e, _⟩
    · exact .inl ⟨a, d, rfl, rfl⟩
    · cases e
  · rcases h' with ⟨c, d, e, rfl⟩ | ⟨qs, qs', e, rfl, g'⟩
    · cases e
    · cases e
      exact .inr ⟨ps, qs', rfl, rfl, fun z => g' (g z)⟩
theorem SameH.refl (H : Hp) : SameH H H := fun _ o e => ⟨o, e, .inl rfl⟩
theorem SameH.of {H H' : Hp} (s : Same H H') : SameH H H' := fun b o e => ⟨o, s b o e, .inl rfl⟩
theorem SameH.trans {H H1 H2 : Hp} (a : SameH H H1) (b : SameH H1 H2) : SameH H H2 := fun x o e => by
  obtain ⟨o1, e1, h1⟩ := a x o e
  obtain ⟨o2, e2, h2⟩ := b x o1 e1
  refine ⟨o2, e2, ?_⟩
  rcases h1 with rfl | h1
  · exact h2.imp id fun z => ⟨z.1, z.2.1, MR.pre a z.2.2⟩
  · rcases h2 with rfl | h2
    · exact .inr ⟨h1.1, h1.2.1, MR.post b.code h1.2.2⟩
    · exact .inr ⟨h1.1, h2.2.1, MR.trans h1.2.2 h2.2.2⟩
theorem SameH.alt {H H' H2 : Hp} (s : SameH H H') (k : ∀ b o, H b = some o → H2 b = H' b) (q : Frzs H' H2) : SameH H H2 := fun b u e => by
  obtain ⟨o', e', z⟩ := s b u e
  exact ⟨o', (k b u e).trans e', z.imp id fun z => ⟨z.1, z.2.1, MR.post q z.2.2⟩⟩
/-- what was not there, or no code object, is written -/
theorem SameH.wr {H H' : Hp} (s : SameH H H') {p : Addr} (n : H p = none) (o : HO) (c : ∀ oc u, H' p ≠ some (.frz oc u)) : SameH H (upd H' p o) := s.alt (fun b u e => upd_ne (ne_of_none e n)) fun d oc u h => by
  by_cases z : d = p
  · subst z; exact absurd h (c oc u)
  · rw [upd_ne z]; exact h
theorem lst_code {xs : List V} {oc : Obj} {u : HO} : some (HO.lst xs) ≠ some (.frz oc u) := fun z => by cases z
theorem SameH.free {H H' : Hp} (s : SameH H H') {a : Addr} (h : H' a = none) : H a = none := by
  cases q : H a with
  | none => rfl
  | some o =>
    obtain ⟨o', e, _⟩ := s a o q
    rw [h] at e; cases e
theorem SameH.at {H H' : Hp} (s : SameH H H') {a : Addr} {o : HO} (h : H a = some o) (n : ¬ Mem o) : H' a = some o := by
  obtain ⟨o', e, z⟩ := s a o h
  rcases z with rfl | z
  · exact e
  · exact absurd z.1 n
/-- nothing of such a kind is in G -/
def NoMem (G : Hp) : Prop := ∀ b o, G b = some o → ¬ Mem o
theorem SameH.up {G H H' : Hp} (s : SameH H H') (g : Same G H) (n : NoMem G) : Same G H' := fun b o e => s.at (g b o e) (n b o e)
/-- the tables that are to be there -/
def MeOk (T : Ct) (H : Hp) : Prop := (∀ a, T.me = some a → ∃ kvs, H a = some (.dT kvs) ∧ MemK kvs) ∧ ∀ P ∈ T.tb, ∃ ps, H P = some (.tbl ps) ∧ Good H ps
/-- there is none of these -/
def NoMe (T : Ct) : Prop := T.me = none ∧ T.tb = [] ∧ T.gc = fun _ => none
/-- and what is to stay as it is -/
def MeO (T : Ct) (H : Hp) : Prop := MeOk T H ∧ Same T.gc H ∧ NoMem T.gc
theorem NoMe.ok {T : Ct} {H : Hp} (h : NoMe T) : MeO T H := ⟨⟨(fun a z => by rw [h.1] at z; cases z), (fun P z => by rw [h.2.1] at z; cases z)⟩, (fun b o e => by rw [h.2.2] at e; cases e), fun b o e => by rw [h.2.2] at e; cases e⟩
theorem MeOk.step {T : Ct} {H H' : Hp} (m : MeOk T H) (s : SameH H H') : MeOk T H' := by
  refine ⟨fun a z => ?_, fun P z => ?_⟩
  · obtain ⟨kvs, e, k⟩ := m.1 a z
    obtain ⟨o', e', q⟩ := s a _ e
    rcases q with rfl | ⟨_, m2, ⟨a, b, e1, rfl⟩ | ⟨_, _, e1, _⟩⟩
    · exact ⟨kvs, e', k⟩
    · exact ⟨_, e', m2⟩
    · cases e1
  · obtain ⟨ps, e, k⟩ := m.2 P z
    obtain ⟨o', e', q⟩ := s P _ e
    rcases q with rfl | ⟨_, m2, ⟨a, b, e1, rfl⟩ | ⟨qs, qs', e1, rfl, g⟩⟩
    · exact ⟨ps, e', k.mono s.code⟩
    · cases e1
    · cases e1
      exact ⟨_, e', g k⟩
theorem MeOk.wr {T : Ct} {H : Hp} (m : MeOk T H) {p : Addr} {xs : List V} (h : H p = some (.lst xs)) (o : HO) : MeOk T (upd H p o) := by
  refine ⟨fun a z => ?_, fun P z => ?_⟩
  · obtain ⟨kvs, e, k⟩ := m.1 a z
    have : a ≠ p := fun y => by rw [y, h] at e; cases e
    exact ⟨kvs, by rw [upd_ne this]; exact e, k⟩
  · obtain ⟨ps, e, k⟩ := m.2 P z
    have : P ≠ p := fun y => by rw [y, h] at e; cases e
    refine ⟨ps, by rw [upd_ne this]; exact e, k.mono fun c oc u hc => ?_⟩
    have : c ≠ p := fun y => by rw [y, h] at hc; exact lst_code hc
    rw [upd_ne this]; exact hc
/-! ### steps -/
structure Step (G H G' H' : Hp) : Prop where
  hh : SameH H H'
  gg : Same G G'
  gh : Same G' H'
  nw : ∀ a, G a = none → G' a ≠ none → H a = none
  nm : NoMem G → NoMem G'
theorem same_none {H H' : Hp} (e : Same H H') {a : Addr} (h : H' a = none) : H a = none := e.free h
theorem Step.refl {G H : Hp} (h : Same G H) : Step G H G H := ⟨SameH.refl _, Same.refl _, h, fun _ a b => absurd a b, fun n => n⟩
theorem Step.trans {G H G1 H1 G2 H2 : Hp} (a : Step G H G1 H1) (b : Step G1 H1 G2 H2) : Step G H G2 H2 :=
  ⟨a.hh.trans b.hh, a.gg.trans b.gg, b.gh, fun x h1 h2 => by
    by_cases q : G1 x = none
    · exact a.hh.free (b.nw x q h2)
    · exact a.nw x h1 q, fun n => b.nm (a.nm n)⟩
theorem same_upd {H : Hp} {p : Addr} (h : H p = none) (o : HO) : Same H (upd H p o) := fun b u q => by rw [upd_ne (ne_of_none q h)]; exact q
/-- a new object that is never changed -/
theorem Step.new {G H : Hp} (h : Same G H) {p : Addr} (n : H p = none) (o : HO) (m : ¬ Mem o := by exact fun z => z) : Step G H (upd G p o) (upd H p o) := by
  refine ⟨.of (same_upd n o), same_upd (same_none h n) o, fun b u q => ?_, fun a h1 h2 => ?_, fun k b u q => ?_⟩
  · by_cases e : b = p
    · subst e; rw [upd_same] at q ⊢; exact q
    · rw [upd_ne e] at q ⊢; exact h b u q
  · by_cases e : a = p
    · subst e; exact n
    · rw [upd_ne e] at h2; exact absurd h1 h2
  · by_cases e : b = p
    · subst e; rw [upd_same] at q; cases q; exact m
    · rw [upd_ne e] at q; exact k b u q
/-- a new object kept apart -/
theorem Step.apart {G H : Hp} (h : Same G H) {p : Addr} (n : H p = none) (o : HO) : Step G H G (upd H p o) :=
  ⟨.of (same_upd n o), Same.refl _, h.trans (same_upd n o), fun _ a b => absurd a b, fun n => n⟩
/-- what was kept apart is never changed from here on -/
theorem Step.freeze {G H G' H' : Hp} (s : Step G H G' H') {p : Addr} {o : HO} (n : H p = none) (n' : G' p = none) (e : H' p = some o) (m : ¬ Mem o := by exact fun z => z) : Step G H (upd G' p o) H' := by
  refine ⟨s.hh, s.gg.trans (same_upd n' o), fun b u q => ?_, fun a h1 h2 => ?_, fun k b u q => ?_⟩
  · by_cases z : b = p
    · subst z; rw [upd_same] at q; rw [e]; exact q
    · rw [upd_ne z] at q; exact s.gh b u q
  · by_cases z : a = p
    · subst z; exact n
    · rw [upd_ne z] at h2; exact s.nw a h1 h2
  · by_cases z : b = p
    · subst z; rw [upd_same] at q; cases q; exact m
    · rw [upd_ne z] at q; exact s.nm k b u q
/-- an owned list stays apart through a step -/
theorem Step.own {G H G' H' : Hp} (s : Step G H G' H') {p : Addr} {o : HO} (n : G p = none) (e : H p = some o) (m : ¬ Mem o := by exact fun z => z) : G' p = none ∧ H' p = some o := by
  refine ⟨?_, s.hh.at e m⟩
  cases q : G' p with
  | none => rfl
  | some u =>
    have z := s.nw p n (by rw [q]; exact fun z => nomatch z)
    rw [e] at z; cases z

/-! ### a dict with heaps (tuples within tuples) as keys, ints as values -/
mutual
def nkOf : D → NestedKey
  | .int i => .num i
  | .tuple ds => .tup (nksOf ds)
  | _ => .none
def nksOf : List D → List NestedKey
  | [] => []
  | d :: ds => nkOf d :: nksOf ds
end
mutual
def nkOk : D → Bool
  | .int _ => true
  | .tuple ds => nksOk ds
  | _ => false
def nksOk : List D → Bool
  | [] => true
  | d :: ds => nkOk d && nksOk ds
end
/-- the object itself -/
def rawO (p : Addr) (o : Obj) : HO := .ext fun h => h.get? p = some o
def DicE (G : Hp) (x : D × Int) (e : DictEntry) : Prop := ∃ a t, e.key = .ref a ∧ Dq G (.ref a) x.1 ∧ nkOk x.1 = true ∧ (nkOf x.1).depth ≤ 8 ∧ (∀ w, e.hash = NestedKey.hash w (nkOf x.1)) ∧ e.val = .int x.2 t
structure DicR (G : Hp) (kvs : List (D × Int)) (es : List DictEntry) : Prop where
  pr : Paired (DicE G) kvs es
  nd : (kvs.map fun e => nkOf e.1).Nodup
  ln : kvs.length ≤ 100000
theorem DicR.mono {G G' : Hp} {kvs : List (D × Int)} {es : List DictEntry} (h : DicR G kvs es) (e : Same G G') : DicR G' kvs es :=
  ⟨Paired.mapP h.pr fun _ _ ⟨a, t, h1, h2, h3⟩ => ⟨a, t, h1, h2.mono e, h3⟩, h.nd, h.ln⟩
structure DicO (G : Hp) (p : Addr) (o : Obj) (kvs : List (D × Int)) : Prop where
  sy : (p == sysModules) = false
  ex : o.ExactDict
  dt : ∃ es ep, o.data = .dict es ep ∧ DicR G kvs es.toList
theorem DicO.mono {G G' : Hp} {p : Addr} {o : Obj} {kvs : List (D × Int)} (h : DicO G p o kvs) (e : Same G G') : DicO G' p o kvs :=
  ⟨h.sy, h.ex, let ⟨es, ep, h1, h2⟩ := h.dt; ⟨es, ep, h1, h2.mono e⟩⟩
def DicF (G : Hp) (v : V) (fs : List D) : Prop := ∃ p o kvs, v = .ref p ∧ G p = some (rawO p o) ∧ DicO G p o kvs ∧ fs = kvs.map fun e => .tuple [e.1, .int e.2]
theorem DicF.mono {G G' : Hp} {v : V} {fs : List D} (h : DicF G v fs) (e : Same G G') : DicF G' v fs :=
  let ⟨p, o, kvs, h1, h2, h3, h4⟩ := h; ⟨p, o, kvs, h1, e _ _ h2, h3.mono e, h4⟩
/-! ### objects -/
/-- {} or data -/
def ThR (G : Hp) (x : V) (d : D) : Prop := (d = .dict [] ∧ ∃ a, x = .ref a ∧ G a = some (.dK [])) ∨ Dq G x d
theorem ThR.mono {G G' : Hp} {x : V} {d : D} (h : ThR G x d) (e : Same G G') : ThR G' x d := h.imp (fun ⟨h1, a, h2, h3⟩ => ⟨h1, a, h2, e _ _ h3⟩) fun z => z.mono e
/-- 104 a callable by its number, 105 a list of such, 106 {}, 107 a list of things -/
def XoR (T : Ct) (G : Hp) (v : V) (c : Nat) (fs : List D) : Prop := if c = 104 then (∃ n : Nat, fs = [.int n] ∧ v = .ref (T.fv n)) else if c = 105 then (∃ (p : Addr) (ns : List Nat), v = .ref p ∧ G p = some (.lst (ns.map fun n => .ref (T.fv n))) ∧ fs = ns.map fun n : Nat => .int n)
  else if c = 106 then (∃ p, v = .ref p ∧ G p = some (.dK [])) else (∃ p xs, v = .ref p ∧ G p = some (.lst xs) ∧ Paired (ThR G) xs fs)
theorem XoR.mono {T : Ct} {G G' : Hp} {v : V} {c : Nat} {fs : List D} (h : XoR T G v c fs) (e : Same G G') : XoR T G' v c fs := by
  unfold XoR at *
  split at h
  · rename_i z; rw [if_pos z]; exact h
  rename_i z; rw [if_neg z]
  split at h
  · rename_i z; rw [if_pos z]
    obtain ⟨p, ns, h1, h2, h3⟩ := h
    exact ⟨p, ns, h1, e _ _ h2, h3⟩
  rename_i z; rw [if_neg z]
  split at h
  · rename_i z; rw [if_pos z]
    obtain ⟨p, h1, h2⟩ := h
    exact ⟨p, h1, e _ _ h2⟩
  rename_i z; rw [if_neg z]
  obtain ⟨p, xs, h1, h2, h3⟩ := h
  exact ⟨p, xs, h1, e _ _ h2, Paired.mapP h3 fun _ _ z => z.mono e⟩
def ObRp (T : Ct) (G : Hp) (v : V) (c : Nat) (fs : List D) : Prop := if c = 100 then v = .ref T.xa else if c = 101 then (∃ a, T.me = some a ∧ v = .ref a) else if c = 102 then True else if c = 103 then DicF G v fs else if 104 ≤ c then XoR T G v c fs else
  ∃ a dx vs, v = .ref a ∧ G a = some (.ins (T.ad c) dx ((T.fl c).zip vs)) ∧ G dx = some (.own a) ∧ vs.length = (T.fl c).length ∧ DqAll G vs fs
theorem ObRp.mono {T : Ct} {G G' : Hp} {v : V} {c : Nat} {fs : List D} (h : ObRp T G v c fs) (e : Same G G') : ObRp T G' v c fs := by
  unfold ObRp at *
  split at h
  · rename_i z; rw [if_pos z]; exact h
  · rename_i z; rw [if_neg z]
    split at h
    · rename_i z; rw [if_pos z]; exact h
    · rename_i z; rw [if_neg z]
      split at h
      · rename_i z; rw [if_pos z]; trivial
      rename_i z; rw [if_neg z]
      split at h
      · rename_i z; rw [if_pos z]; exact h.mono e
      rename_i z; rw [if_neg z]
      split at h
      · rename_i z; rw [if_pos z]; exact h.mono e
      rename_i z; rw [if_neg z]
      obtain ⟨a, dx, vs, h1, h2, h3, h4, h5⟩ := h
      exact ⟨a, dx, vs, h1, e _ _ h2, e _ _ h3, h4, h5.mono e⟩
/-- a value handed on -/
def VRp (T : Ct) (G : Hp) (v : V) : SV → Prop
  | .sh d => Dq G v d
  | .ow _ => False
  | .ob c fs => ObRp T G v c fs
  | .rg _ => False
theorem VRp.mono {T : Ct} {G G' : Hp} {v : V} {a : SV} (h : VRp T G v a) (e : Same G G') : VRp T G' v a := by
  cases a with
  | sh d => exact Dq.mono h e
  | ow _ => exact h
  | ob c fs => exact ObRp.mono h e
  | rg _ => exact h
def VRpAll (T : Ct) (G : Hp) (vs : List V) (as : List SV) : Prop := Paired (VRp T G) vs as
theorem VRpAll.mono {T : Ct} {G G' : Hp} (e : Same G G') : ∀ {vs : List V} {as : List SV}, VRpAll T G vs as → VRpAll T G' vs as
  | _, _, .nil => .nil
  | _, _, .cons h t => .cons (h.mono e) (VRpAll.mono e t)

/-! ### a thing of one's own: its places, one by one -/
mutual
inductive RRp (T : Ct) (G H : Hp) : List Addr → V → RD → Prop
  | dat {v : V} {d : D} (h : Dq G v d) : RRp T G H [] v (.dat d)
  | jk {v : V} : RRp T G H [] v .jk
  | lst {p : Addr} {vs : List V} {S : List Addr} {rs : List RD} (h : H p = some (.lst vs)) (a : RRpAll T G H S vs rs) : RRp T G H (p :: S) (.ref p) (.lst rs)
  | tup {p : Addr} {vs : List V} {S : List Addr} {rs : List RD} (h : H p = some (.tup vs)) (a : RRpAll T G H S vs rs) : RRp T G H (p :: S) (.ref p) (.tup rs)
  | ins {p dx : Addr} {c : Nat} {vs : List V} {S : List Addr} {rs : List RD} (h : H p = some (.ins (T.ad c) dx ((T.fl c).zip vs))) (h2 : H dx = some (.own p)) (l : vs.length = (T.fl c).length) (a : RRpAll T G H S vs rs) : RRp T G H (p :: dx :: S) (.ref p) (.ins c rs)
  | dic {p : Addr} {o : Obj} {kvs : List (D × Int)} (h : H p = some (rawO p o)) (a : DicO G p o kvs) : RRp T G H [p] (.ref p) (.dic kvs)
inductive RRpAll (T : Ct) (G H : Hp) : List Addr → List V → List RD → Prop
  | nil : RRpAll T G H [] [] []
  | cons {S S' : List Addr} {v : V} {vs : List V} {r : RD} {rs : List RD} (h : RRp T G H S v r) (a : RRpAll T G H S' vs rs) : RRpAll T G H (S ++ S') (v :: vs) (r :: rs)
end
mutual
theorem RRp.mono {T T' : Ct} {G G' H H' : Hp} (e : Same G G') (t1 : T.ad = T'.ad) (t2 : T.fl = T'.fl) : ∀ (r : RD) (S : List Addr) (v : V), RRp T G H S v r → (∀ a ∈ S, H' a = H a) → RRp T' G' H' S v r
  | .dat d, _, _, .dat h, _ => .dat (h.mono e)
  | .jk, _, _, .jk, _ => .jk
  | .lst rs, _, _, .lst h a, k => .lst ((k _ List.mem_cons_self).trans h) (RRpAll.mono e t1 t2 rs _ _ a fun b m => k b (List.mem_cons_of_mem _ m))
  | .tup rs, _, _, .tup h a, k => .tup ((k _ List.mem_cons_self).trans h) (RRpAll.mono e t1 t2 rs _ _ a fun b m => k b (List.mem_cons_of_mem _ m))
  | .ins c rs, _, _, .ins h h2 l a, k => .ins (((k _ List.mem_cons_self).trans h).trans (by rw [t1, t2])) ((k _ (List.mem_cons_of_mem _ List.mem_cons_self)).trans h2) (l.trans (by rw [t2])) (RRpAll.mono e t1 t2 rs _ _ a fun b m => k b (List.mem_cons_of_mem _ (List.mem_cons_of_mem _ m)))
  | .dic kvs, _, _, .dic h a, k => .dic ((k _ List.mem_cons_self).trans h) (a.mono e)
theorem RRpAll.mono {T T' : Ct} {G G' H H' : Hp} (e : Same G G') (t1 : T.ad = T'.ad) (t2 : T.fl = T'.fl) : ∀ (rs : List RD) (S : List Addr) (vs : List V), RRpAll T G H S vs rs → (∀ a ∈ S, H' a = H a) → RRpAll T' G' H' S vs rs
  | [], _, _, .nil, _ => .nil
  | r :: rs, _, _, .cons h a, k => .cons (RRp.mono e t1 t2 r _ _ h fun b m => k b (List.mem_append_left _ m)) (RRpAll.mono e t1 t2 rs _ _ a fun b m => k b (List.mem_append_right _ m))
end
mutual
theorem RRp.at {T : Ct} {G H : Hp} : ∀ (r : RD) (S : List Addr) (v : V), RRp T G H S v r → ∀ a ∈ S, ∃ o, H a = some o ∧ ¬ Mem o
  | .dat _, _, _, .dat _, a, m => absurd m List.not_mem_nil
  | .jk, _, _, .jk, a, m => absurd m List.not_mem_nil
  | .lst rs, _, _, .lst h q, a, m => by
    rcases List.mem_cons.mp m with rfl | m
    · exact ⟨_, h, fun z => z⟩
    · exact RRpAll.at rs _ _ q a m
  | .tup rs, _, _, .tup h q, a, m => by
    rcases List.mem_cons.mp m with rfl | m
    · exact ⟨_, h, fun z => z⟩
    · exact RRpAll.at rs _ _ q a m
  | .ins c rs, _, _, .ins h h2 l q, a, m => by
    rcases List.mem_cons.mp m with rfl | m
    · exact ⟨_, h, fun z => z⟩
    rcases List.mem_cons.mp m with rfl | m
    · exact ⟨_, h2, fun z => z⟩
    · exact RRpAll.at rs _ _ q a m
  | .dic kvs, _, _, .dic h q, a, m => by
    rw [List.mem_singleton.mp m]
    exact ⟨_, h, fun z => z⟩
theorem RRpAll.at {T : Ct} {G H : Hp} : ∀ (rs : List RD) (S : List Addr) (vs : List V), RRpAll T G H S vs rs → ∀ a ∈ S, ∃ o, H a = some o ∧ ¬ Mem o
  | [], _, _, .nil, a, m => absurd m List.not_mem_nil
  | r :: rs, _, _, .cons h q, a, m => by
    rcases List.mem_append.mp m with m | m
    · exact RRp.at r _ _ h a m
    · exact RRpAll.at rs _ _ q a m
end
mutual
theorem RRp.nf {T : Ct} {G H : Hp} : ∀ (r : RD) (S : List Addr) (v : V), RRp T G H S v r → ∀ a ∈ S, ∀ oc u, H a ≠ some (.frz oc u)
  | .dat _, _, _, .dat _, a, m => absurd m List.not_mem_nil
  | .jk, _, _, .jk, a, m => absurd m List.not_mem_nil
  | .lst rs, _, _, .lst h q, a, m => by
    rcases List.mem_cons.mp m with rfl | m
    · rw [h]; exact fun _ _ z => by cases z
    · exact RRpAll.nf rs _ _ q a m
  | .tup rs, _, _, .tup h q, a, m => by
    rcases List.mem_cons.mp m with rfl | m
    · rw [h]; exact fun _ _ z => by cases z
    · exact RRpAll.nf rs _ _ q a m
  | .ins c rs, _, _, .ins h h2 l q, a, m => by
    rcases List.mem_cons.mp m with rfl | m
    · rw [h]; exact fun _ _ z => by cases z
    rcases List.mem_cons.mp m with rfl | m
    · rw [h2]; exact fun _ _ z => by cases z
    · exact RRpAll.nf rs _ _ q a m
  | .dic kvs, _, _, .dic h q, a, m => by
    rw [List.mem_singleton.mp m, h]
    exact fun _ _ z => by unfold rawO at z; cases z
theorem RRpAll.nf {T : Ct} {G H : Hp} : ∀ (rs : List RD) (S : List Addr) (vs : List V), RRpAll T G H S vs rs → ∀ a ∈ S, ∀ oc u, H a ≠ some (.frz oc u)
  | [], _, _, .nil, a, m => absurd m List.not_mem_nil
  | r :: rs, _, _, .cons h q, a, m => by
    rcases List.mem_append.mp m with m | m
    · exact RRp.nf r _ _ h a m
    · exact RRpAll.nf rs _ _ q a m
end
theorem zip_inj {α : Type} : ∀ {fs : List Str} {vs ws : List α}, vs.length = fs.length → ws.length = fs.length → fs.zip vs = fs.zip ws → vs = ws
  | [], [], [], _, _, _ => rfl
  | [], _ :: _, _, h, _, _ => by cases h
  | [], _, _ :: _, _, h, _ => by cases h
  | _ :: _, [], _, h, _, _ => by cases h
  | _ :: _, _, [], _, h, _ => by cases h
  | f :: fs, v :: vs, w :: ws, h1, h2, e => by
    simp only [List.zip_cons_cons, List.cons.injEq, Prod.mk.injEq, true_and] at e
    rw [e.1, zip_inj (by simpa using h1) (by simpa using h2) e.2]
mutual
theorem RRp.det {T : Ct} {G G' H H' : Hp} : ∀ (r : RD) (S S' : List Addr) (v : V), RRp T G H S v r → RRp T G' H' S' v r → (∀ a ∈ S, H' a = H a) → S' = S
  | .dat _, _, _, _, .dat _, .dat _, _ => rfl
  | .jk, _, _, _, .jk, .jk, _ => rfl
  | .lst rs, _, _, _, .lst h q, .lst h' q', k => by
    have e := (k _ List.mem_cons_self)
    rw [h, h'] at e
    cases e
    rw [RRpAll.det rs _ _ _ q q' fun b m => k b (List.mem_cons_of_mem _ m)]
  | .tup rs, _, _, _, .tup h q, .tup h' q', k => by
    have e := (k _ List.mem_cons_self)
    rw [h, h'] at e
    cases e
    rw [RRpAll.det rs _ _ _ q q' fun b m => k b (List.mem_cons_of_mem _ m)]
  | .ins c rs, _, _, _, .ins h h2 l q, .ins h' h2' l' q', k => by
    have e := (k _ List.mem_cons_self)
    rw [h, h'] at e
    injection e with e
    injection e with e1 e2 e3
    subst e2
    have e4 := zip_inj l' l e3
    subst e4
    rw [RRpAll.det rs _ _ _ q q' fun b m => k b (List.mem_cons_of_mem _ (List.mem_cons_of_mem _ m))]
  | .dic kvs, _, _, _, .dic h q, .dic h' q', k => rfl
theorem RRpAll.det {T : Ct} {G G' H H' : Hp} : ∀ (rs : List RD) (S S' : List Addr) (vs : List V), RRpAll T G H S vs rs → RRpAll T G' H' S' vs rs → (∀ a ∈ S, H' a = H a) → S' = S
  | [], _, _, _, .nil, .nil, _ => rfl
  | r :: rs, _, _, _, .cons h q, .cons h' q', k => by
    rw [RRp.det r _ _ _ h h' fun b m => k b (List.mem_append_left _ m), RRpAll.det rs _ _ _ q q' fun b m => k b (List.mem_append_right _ m)]
end
mutual
/-- .. never changed from here on -/
theorem RRp.frz {T : Ct} {G H G2 : Hp} (e : Same G G2) : ∀ (r : RD) (S : List Addr) (v : V) (d : D), RRp T G H S v r → (∀ a ∈ S, G2 a = H a) → r.toD = some d → Dq G2 v d
  | .dat _, _, _, d, .dat h, _, z => by cases z; exact h.mono e
  | .jk, _, _, _, _, _, z => by cases z
  | .ins _ _, _, _, _, _, _, z => by cases z
  | .dic _, _, _, _, _, _, z => by cases z
  | .lst rs, _, _, d, .lst h q, k, z => by
    simp only [RD.toD] at z
    obtain ⟨ds, z1, rfl⟩ := Option.map_eq_some_iff.mp z
    exact Dq.lst (SqL.of ((k _ List.mem_cons_self).trans h)) (RRpAll.frz e rs _ _ ds q (fun b m => k b (List.mem_cons_of_mem _ m)) z1)
  | .tup rs, _, _, d, .tup h q, k, z => by
    simp only [RD.toD] at z
    obtain ⟨ds, z1, rfl⟩ := Option.map_eq_some_iff.mp z
    exact Dq.tup (SqT.of ((k _ List.mem_cons_self).trans h)) (RRpAll.frz e rs _ _ ds q (fun b m => k b (List.mem_cons_of_mem _ m)) z1)
theorem RRpAll.frz {T : Ct} {G H G2 : Hp} (e : Same G G2) : ∀ (rs : List RD) (S : List Addr) (vs : List V) (ds : List D), RRpAll T G H S vs rs → (∀ a ∈ S, G2 a = H a) → RD.toDs rs = some ds → DqAll G2 vs ds
  | [], _, _, ds, .nil, _, z => by simp only [RD.toDs] at z; cases z; exact .nil
  | r :: rs, _, _, ds, .cons h q, k, z => by
    simp only [RD.toDs] at z
    split at z
    · rename_i d ds' e1 e2
      cases z
      exact .cons (RRp.frz e r _ _ d h (fun b m => k b (List.mem_append_left _ m)) e1) (RRpAll.frz e rs _ _ ds' q (fun b m => k b (List.mem_append_right _ m)) e2)
    · cases z
end
theorem RRp.fzv {T : Ct} {G H G2 : Hp} (e : Same G G2) {r : RD} {S : List Addr} {v : V} {w : SV} (h : RRp T G H S v r) (k : ∀ a ∈ S, G2 a = H a) (z : r.fzv = some w) : VRp T G2 v w := by
  cases r with
  | dat d => simp only [RD.fzv] at z; cases z; exact RRp.frz e (.dat d) _ _ d h k (by simp only [RD.toD])
  | jk => simp only [RD.fzv] at z; cases z
  | lst rs =>
    simp only [RD.fzv] at z
    obtain ⟨ds, z1, rfl⟩ := Option.map_eq_some_iff.mp z
    exact RRp.frz e (.lst rs) _ _ (.list ds) h k (by simp only [RD.toD, z1, Option.map_some])
  | tup rs =>
    simp only [RD.fzv] at z
    obtain ⟨ds, z1, rfl⟩ := Option.map_eq_some_iff.mp z
    exact RRp.frz e (.tup rs) _ _ (.tuple ds) h k (by simp only [RD.toD, z1, Option.map_some])
  | ins c rs =>
    simp only [RD.fzv] at z
    split at z
    · cases z
    · rename_i nc
      obtain ⟨ds, z1, rfl⟩ := Option.map_eq_some_iff.mp z
      cases h with
      | ins h h2 l q =>
        show ObRp T G2 _ c ds
        unfold ObRp
        rw [if_neg (by omega), if_neg (by omega), if_neg (by omega), if_neg (by omega), if_neg (by omega)]
        exact ⟨_, _, _, rfl, (k _ List.mem_cons_self).trans h, (k _ (List.mem_cons_of_mem _ List.mem_cons_self)).trans h2, l, RRpAll.frz e rs _ _ ds q (fun b m => k b (List.mem_cons_of_mem _ (List.mem_cons_of_mem _ m))) z1⟩
  | dic kvs =>
    simp only [RD.fzv] at z
    cases z
    cases h with
    | dic h a =>
      show ObRp T G2 _ 103 _
      unfold ObRp
      rw [if_neg (by omega), if_neg (by omega), if_neg (by omega), if_pos rfl]
      exact ⟨_, _, kvs, rfl, (k _ List.mem_cons_self).trans h, a.mono e, rfl⟩
open Classical in
/-- a heap with some places of another -/
noncomputable def addS (G H : Hp) (S : List Addr) : Hp := fun a => if a ∈ S then H a else G a
theorem addS_in {G H : Hp} {S : List Addr} {a : Addr} (h : a ∈ S) : addS G H S a = H a := if_pos h
theorem addS_out {G H : Hp} {S : List Addr} {a : Addr} (h : a ∉ S) : addS G H S a = G a := if_neg h
theorem addS_same {G H : Hp} {S : List Addr} (n : ∀ a ∈ S, G a = none) : Same G (addS G H S) := fun b o e => by
  rw [addS_out fun m => by rw [n b m] at e; cases e]; exact e
/-- what is new and apart since H0 is never changed from here on -/
theorem Step.frzS {G0 H0 G H : Hp} (s : Step G0 H0 G H) {S : List Addr} (n : ∀ a ∈ S, G a = none ∧ H0 a = none) (k : ∀ a ∈ S, ∃ o, H a = some o ∧ ¬ Mem o) : Step G0 H0 (addS G H S) H := by
  refine ⟨s.hh, s.gg.trans (addS_same fun a m => (n a m).1), fun b o e => ?_, fun a h1 h2 => ?_, fun q b o e => ?_⟩
  · by_cases m : b ∈ S
    · rw [addS_in m] at e; exact e
    · rw [addS_out m] at e; exact s.gh b o e
  · by_cases m : a ∈ S
    · exact (n a m).2
    · rw [addS_out m] at h2; exact s.nw a h1 h2
  · by_cases m : b ∈ S
    · rw [addS_in m] at e
      obtain ⟨o', e', z⟩ := k b m
      rw [e] at e'; cases e'; exact z
    · rw [addS_out m] at e; exact s.nm q b o e
/-- places apart stay as they are through a step -/
theorem Step.keepS {G H G' H' : Hp} (s : Step G H G' H') {S : List Addr} (n : ∀ a ∈ S, G a = none) (k : ∀ a ∈ S, ∃ o, H a = some o ∧ ¬ Mem o) : (∀ a ∈ S, G' a = none) ∧ ∀ a ∈ S, H' a = H a := by
  refine ⟨fun a m => ?_, fun a m => ?_⟩
  · obtain ⟨o, e, z⟩ := k a m
    exact (s.own (n a m) e z).1
  · obtain ⟨o, e, z⟩ := k a m
    rw [(s.own (n a m) e z).2, e]
structure RgAt (T : Ct) (B : Hp × Hp) (G H : Hp) (S : List Addr) (v : V) (r : RD) : Prop where
  rp : RRp T G H S v r
  nd : S.Nodup
  nw : ∀ a ∈ S, G a = none ∧ B.2 a = none
theorem RgAt.step {T : Ct} {B : Hp × Hp} {G H G' H' : Hp} {S : List Addr} {v : V} {r : RD} (h : RgAt T B G H S v r) (s : Step G H G' H') : RgAt T B G' H' S v r := by
  obtain ⟨a1, a2⟩ := s.keepS (fun a m => (h.nw a m).1) (RRp.at r S v h.rp)
  exact ⟨RRp.mono s.gg rfl rfl r S v h.rp a2, h.nd, fun a m => ⟨a1 a m, (h.nw a m).2⟩⟩
/-- of such things a def has one at a time -/
def RgOk (T : Ct) (B : Hp × Hp) (G : Hp) (env : VEnv) (σ : L2.St) (H : Hp) : Prop := ∀ (i : Nat) r, env[i]? = some (some (.rg r)) → (∀ (j : Nat) r', env[j]? = some (some (.rg r')) → j = i) ∧ ∃ v S, σ[i]? = some (some v) ∧ RgAt T B G H S v r ∧
  ∀ (j : Nat) ds p, env[j]? = some (some (.ow ds)) → σ[j]? = some (some (.ref p)) → p ∉ S
theorem RgOk.sub {T : Ct} {B : Hp × Hp} {G H : Hp} {env env' : VEnv} {σ σ' : L2.St} (h : RgOk T B G env σ H) (h1 : ∀ (i : Nat) r, env'[i]? = some (some (.rg r)) → env[i]? = some (some (.rg r)) ∧ σ'[i]? = σ[i]?)
    (h2 : ∀ (j : Nat) ds p, env'[j]? = some (some (.ow ds)) → σ'[j]? = some (some (.ref p)) → ∃ ds', env[j]? = some (some (.ow ds')) ∧ σ[j]? = some (some (.ref p))) : RgOk T B G env' σ' H := fun i r e => by
  obtain ⟨e1, e2⟩ := h1 i r e
  obtain ⟨u, v, S, a, b, c⟩ := h i r e1
  refine ⟨fun j r' q => u j r' (h1 j r' q).1, v, S, e2.trans a, b, fun j ds p q1 q2 => ?_⟩
  obtain ⟨ds', z1, z2⟩ := h2 j ds p q1 q2
  exact c j ds' p z1 z2
/-! ### the state -/
structure Sim (T : Ct) (B : Hp × Hp) (G : Hp) (env : VEnv) (σ : St) (H : Hp) : Prop where
  st : Step B.1 B.2 G H
  nb : NoMem B.1 ∧ Same T.gc B.2 ∧ NoMem T.gc
  me : MeOk T H
  len : env.length = σ.length
  sh : ∀ (i : Nat) d, env[i]? = some (some (.sh d)) → ∃ v, σ[i]? = some (some v) ∧ Dq G v d
  ob : ∀ (i : Nat) c fs, env[i]? = some (some (.ob c fs)) → ∃ v, σ[i]? = some (some v) ∧ ObRp T G v c fs
  ow : ∀ (i : Nat) ds, env[i]? = some (some (.ow ds)) → ∃ p xs, σ[i]? = some (some (.ref p)) ∧ H p = some (.lst xs) ∧ G p = none ∧ B.2 p = none ∧ DqAll G xs ds
  ap : ∀ (i j : Nat) ds es p, env[i]? = some (some (.ow ds)) → env[j]? = some (some (.ow es)) → σ[i]? = some (some (.ref p)) → σ[j]? = some (some (.ref p)) → i = j
  rg : RgOk T B G env σ H
section
variable {T : Ct} {B : Hp × Hp} {G G' H H' : Hp} {env : VEnv} {σ : St}
theorem Sim.gh (S : Sim T B G env σ H) : Same G H := S.st.gh
theorem Sim.mo (S : Sim T B G env σ H) : MeO T H := ⟨S.me, S.st.hh.up S.nb.2.1 S.nb.2.2, S.nb.2.2⟩
theorem Sim.step (S : Sim T B G env σ H) (s : Step G H G' H') : Sim T B G' env σ H' where
  st := S.st.trans s
  nb := S.nb
  me := S.me.step s.hh
  len := S.len
  sh := fun i d e => let ⟨v, h1, h2⟩ := S.sh i d e; ⟨v, h1, h2.mono s.gg⟩
  ob := fun i c fs e => let ⟨v, h1, h2⟩ := S.ob i c fs e; ⟨v, h1, h2.mono s.gg⟩
  ow := fun i ds e => by
    obtain ⟨p, xs, h1, h2, h3, h4, h5⟩ := S.ow i ds e
    obtain ⟨h3', h2'⟩ := s.own h3 h2
    exact ⟨p, xs, h1, h2', h3', h4, h5.mono s.gg⟩
  ap := S.ap
  rg := fun i r e => by
    obtain ⟨u, v, F, a, b, c⟩ := S.rg i r e
    exact ⟨u, v, F, a, b.step s, c⟩
/-- a name is forgotten -/
theorem get_set {α : Type} {l : List α} {i j : Nat} {a b : α} (h : (l.set i a)[j]? = some b) : (i = j ∧ a = b) ∨ (i ≠ j ∧ l[j]? = some b) := by
  by_cases e : i = j
  · subst e
    by_cases hl : i < l.length
    · rw [List.getElem?_set_self hl] at h; exact .inl ⟨rfl, Option.some.inj h⟩
    · rw [List.getElem?_eq_none (by simpa using hl)] at h; cases h
  · rw [List.getElem?_set_ne e] at h; exact .inr ⟨e, h⟩
theorem Sim.lt (S : Sim T B G env σ H) {i : Nat} {o : Option SV} (h : env[i]? = some o) : i < σ.length := by
  rw [← S.len]; exact (List.getElem?_eq_some_iff.mp h).1
theorem Sim.setSh (S : Sim T B G env σ H) {i : Nat} {v : V} {d : D} (h : Dq G v d) : Sim T B G (env.set i (some (.sh d))) (σ.set i (some v)) H where
  st := S.st
  nb := S.nb
  me := S.me
  len := by rw [List.length_set, List.length_set, S.len]
  sh := fun j e q => by
    have hj : j < σ.length := by have := (List.getElem?_eq_some_iff.mp q).1; rw [List.length_set] at this; rw [← S.len]; exact this
    rcases get_set q with ⟨z, y⟩ | ⟨z, y⟩
    · subst z; cases y; exact ⟨v, List.getElem?_set_self hj, h⟩
    · obtain ⟨w, h1, h2⟩ := S.sh j e y
      exact ⟨w, by rw [List.getElem?_set_ne z]; exact h1, h2⟩
  ob := fun j c fs q => by
    rcases get_set q with ⟨z, y⟩ | ⟨z, y⟩
    · cases y
    · obtain ⟨w, h1, h2⟩ := S.ob j c fs y
      exact ⟨w, by rw [List.getElem?_set_ne z]; exact h1, h2⟩
  ow := fun j ds q => by
    rcases get_set q with ⟨z, y⟩ | ⟨z, y⟩
    · cases y
    · obtain ⟨p, xs, h1, h2⟩ := S.ow j ds y
      exact ⟨p, xs, by rw [List.getElem?_set_ne z]; exact h1, h2⟩
  ap := fun j k ds es p q1 q2 q3 q4 => by
    rcases get_set q1 with ⟨z, y⟩ | ⟨z1, y1⟩
    · cases y
    rcases get_set q2 with ⟨z, y⟩ | ⟨z2, y2⟩
    · cases y
    rw [List.getElem?_set_ne z1] at q3
    rw [List.getElem?_set_ne z2] at q4
    exact S.ap j k ds es p y1 y2 q3 q4
  rg := S.rg.sub (fun j r q => by
    rcases get_set q with ⟨z, y⟩ | ⟨z, y⟩
    · cases y
    · exact ⟨y, List.getElem?_set_ne z⟩) fun j ds p q q' => by
    rcases get_set q with ⟨z, y⟩ | ⟨z, y⟩
    · cases y
    · rw [List.getElem?_set_ne z] at q'; exact ⟨ds, y, q'⟩
theorem Sim.setOb (S : Sim T B G env σ H) {i : Nat} {v : V} {c : Nat} {fs : List D} (h : ObRp T G v c fs) : Sim T B G (env.set i (some (.ob c fs))) (σ.set i (some v)) H where
  st := S.st
  nb := S.nb
  me := S.me
  len := by rw [List.length_set, List.length_set, S.len]
  sh := fun j e q => by
    rcases get_set q with ⟨z, y⟩ | ⟨z, y⟩
    · cases y
    · obtain ⟨w, h1, h2⟩ := S.sh j e y
      exact ⟨w, by rw [List.getElem?_set_ne z]; exact h1, h2⟩
  ob := fun j c' fs' q => by
    have hj : j < σ.length := by have := (List.getElem?_eq_some_iff.mp q).1; rw [List.length_set] at this; rw [← S.len]; exact this
    rcases get_set q with ⟨z, y⟩ | ⟨z, y⟩
    · subst z; cases y; exact ⟨v, List.getElem?_set_self hj, h⟩
    · obtain ⟨w, h1, h2⟩ := S.ob j c' fs' y
      exact ⟨w, by rw [List.getElem?_set_ne z]; exact h1, h2⟩
  ow := fun j ds q => by
    rcases get_set q with ⟨z, y⟩ | ⟨z, y⟩
    · cases y
    · obtain ⟨p, xs, h1, h2⟩ := S.ow j ds y
      exact ⟨p, xs, by rw [List.getElem?_set_ne z]; exact h1, h2⟩
  ap := fun j k ds es p q1 q2 q3 q4 => by
    rcases get_set q1 with ⟨z, y⟩ | ⟨z1, y1⟩
    · cases y
    rcases get_set q2 with ⟨z, y⟩ | ⟨z2, y2⟩
    · cases y
    rw [List.getElem?_set_ne z1] at q3
    rw [List.getElem?_set_ne z2] at q4
    exact S.ap j k ds es p y1 y2 q3 q4
  rg := S.rg.sub (fun j r q => by
    rcases get_set q with ⟨z, y⟩ | ⟨z, y⟩
    · cases y
    · exact ⟨y, List.getElem?_set_ne z⟩) fun j ds p q q' => by
    rcases get_set q with ⟨z, y⟩ | ⟨z, y⟩
    · cases y
    · rw [List.getElem?_set_ne z] at q'; exact ⟨ds, y, q'⟩
theorem Sim.setNone (S : Sim T B G env σ H) {i : Nat} {o : Option V} : Sim T B G (env.set i none) (σ.set i o) H where
  st := S.st
  nb := S.nb
  me := S.me
  len := by rw [List.length_set, List.length_set, S.len]
  sh := fun j e q => by
    rcases get_set q with ⟨z, y⟩ | ⟨z, y⟩
    · cases y
    · obtain ⟨w, h1, h2⟩ := S.sh j e y
      exact ⟨w, by rw [List.getElem?_set_ne z]; exact h1, h2⟩
  ob := fun j c' fs' q => by
    rcases get_set q with ⟨z, y⟩ | ⟨z, y⟩
    · cases y
    · obtain ⟨w, h1, h2⟩ := S.ob j c' fs' y
      exact ⟨w, by rw [List.getElem?_set_ne z]; exact h1, h2⟩
  ow := fun j ds q => by
    rcases get_set q with ⟨z, y⟩ | ⟨z, y⟩
    · cases y
    · obtain ⟨p, xs, h1, h2⟩ := S.ow j ds y
      exact ⟨p, xs, by rw [List.getElem?_set_ne z]; exact h1, h2⟩
  ap := fun j k ds es p q1 q2 q3 q4 => by
    rcases get_set q1 with ⟨z, y⟩ | ⟨z1, y1⟩
    · cases y
    rcases get_set q2 with ⟨z, y⟩ | ⟨z2, y2⟩
    · cases y
    rw [List.getElem?_set_ne z1] at q3
    rw [List.getElem?_set_ne z2] at q4
    exact S.ap j k ds es p y1 y2 q3 q4
  rg := S.rg.sub (fun j r q => by
    rcases get_set q with ⟨z, y⟩ | ⟨z, y⟩
    · cases y
    · exact ⟨y, List.getElem?_set_ne z⟩) fun j ds p q q' => by
    rcases get_set q with ⟨z, y⟩ | ⟨z, y⟩
    · cases y
    · rw [List.getElem?_set_ne z] at q'; exact ⟨ds, y, q'⟩
/-- a list of one's own goes to a name: new since H, apart from all others -/
theorem Sim.setOw (S : Sim T B G env σ H) {i : Nat} {p : Addr} {xs : List V} {ds : List D} (hb : B.2 p = none) (hg : G p = none) (hp : H p = some (.lst xs)) (h : DqAll G xs ds)
    (new : ∀ (j : Nat) es, env[j]? = some (some (.ow es)) → i ≠ j → σ[j]? ≠ some (some (.ref p)))
    (newR : ∀ (j : Nat) r v F, env[j]? = some (some (.rg r)) → i ≠ j → σ[j]? = some (some v) → RRp T G H F v r → p ∉ F) : Sim T B G (env.set i (some (.ow ds))) (σ.set i (some (.ref p))) H where
  st := S.st
  nb := S.nb
  me := S.me
  len := by rw [List.length_set, List.length_set, S.len]
  sh := fun j e q => by
    rcases get_set q with ⟨z, y⟩ | ⟨z, y⟩
    · cases y
    · obtain ⟨w, h1, h2⟩ := S.sh j e y
      exact ⟨w, by rw [List.getElem?_set_ne z]; exact h1, h2⟩
  ob := fun j c fs q => by
    rcases get_set q with ⟨z, y⟩ | ⟨z, y⟩
    · cases y
    · obtain ⟨w, h1, h2⟩ := S.ob j c fs y
      exact ⟨w, by rw [List.getElem?_set_ne z]; exact h1, h2⟩
  ow := fun j es q => by
    have hj : j < σ.length := by have := (List.getElem?_eq_some_iff.mp q).1; rw [List.length_set] at this; rw [← S.len]; exact this
    rcases get_set q with ⟨z, y⟩ | ⟨z, y⟩
    · subst z; cases y; exact ⟨p, xs, List.getElem?_set_self hj, hp, hg, hb, h⟩
    · obtain ⟨p, xs, h1, h2⟩ := S.ow j es y
      exact ⟨p, xs, by rw [List.getElem?_set_ne z]; exact h1, h2⟩
  ap := fun j k es fs a q1 q2 q3 q4 => by
    rcases get_set q1 with ⟨z1, y1⟩ | ⟨z1, y1⟩
    · rcases get_set q2 with ⟨z2, y2⟩ | ⟨z2, y2⟩
      · rw [← z1, ← z2]
      · subst z1
        have hi : i < σ.length := by have := (List.getElem?_eq_some_iff.mp q3).1; rw [List.length_set] at this; exact this
        rw [List.getElem?_set_self hi] at q3
        rw [List.getElem?_set_ne z2] at q4
        cases q3
        exact absurd q4 (new k fs y2 z2)
    · rcases get_set q2 with ⟨z2, y2⟩ | ⟨z2, y2⟩
      · subst z2
        have hi : i < σ.length := by have := (List.getElem?_eq_some_iff.mp q4).1; rw [List.length_set] at this; exact this
        rw [List.getElem?_set_self hi] at q4
        rw [List.getElem?_set_ne z1] at q3
        cases q4
        exact absurd q3 (new j es y1 z1)
      · rw [List.getElem?_set_ne z1] at q3
        rw [List.getElem?_set_ne z2] at q4
        exact S.ap j k es fs a y1 y2 q3 q4
  rg := fun j r q => by
    rcases get_set q with ⟨z, y⟩ | ⟨z, y⟩
    · cases y
    obtain ⟨u, v, F, a, b, c⟩ := S.rg j r y
    refine ⟨fun j' r' q' => ?_, v, F, by rw [List.getElem?_set_ne z]; exact a, b, fun j' ds' p' q1 q2 => ?_⟩
    · rcases get_set q' with ⟨z', y'⟩ | ⟨z', y'⟩
      · cases y'
      · exact u j' r' y'
    · rcases get_set q1 with ⟨z', y'⟩ | ⟨z', y'⟩
      · subst z'
        have hi : i < σ.length := by have := (List.getElem?_eq_some_iff.mp q2).1; rw [List.length_set] at this; exact this
        rw [List.getElem?_set_self hi] at q2
        cases q2
        exact newR j r v F y z a b.rp
      · rw [List.getElem?_set_ne z'] at q2
        exact c j' ds' p' y' q2
/-- the list that a name owns is changed -/
theorem Sim.write (S : Sim T B G env σ H) {i : Nat} {p : Addr} {ds ds' : List D} {xs' : List V} (hi : env[i]? = some (some (.ow ds))) (hp : σ[i]? = some (some (.ref p))) (h : DqAll G xs' ds') :
    Sim T B G (env.set i (some (.ow ds'))) σ (upd H p (.lst xs')) := by
  obtain ⟨p', xs, e1, e2, e3, e4, e5⟩ := S.ow i ds hi
  rw [hp] at e1; cases e1
  have hl : i < σ.length := S.lt hi
  have hs : σ = σ.set i (some (.ref p)) := by
    refine List.ext_getElem? fun j => ?_
    by_cases z : i = j
    · subst z; rw [List.getElem?_set_self hl]; exact hp
    · rw [List.getElem?_set_ne z]
  have S1 : Sim T B G (env.set i none) σ (upd H p (.lst xs')) := by
    refine ⟨⟨S.st.hh.wr e4 _ (by rw [e2]; exact fun _ _ => lst_code), S.st.gg, fun b u q => ?_, S.st.nw, S.st.nm⟩, S.nb, S.me.wr e2 _, by rw [List.length_set, S.len], fun j d q => ?_, fun j c fs q => ?_, fun j es q => ?_, fun j k es fs a q1 q2 q3 q4 => ?_, fun j r q => ?_⟩
    · rw [upd_ne (ne_of_none q e3)]; exact S.st.gh b u q
    · rcases get_set q with ⟨z, y⟩ | ⟨z, y⟩
      · cases y
      · exact S.sh j d y
    · rcases get_set q with ⟨z, y⟩ | ⟨z, y⟩
      · cases y
      · exact S.ob j c fs y
    · rcases get_set q with ⟨z, y⟩ | ⟨z, y⟩
      · cases y
      · obtain ⟨a, ys, h1, h2, h3⟩ := S.ow j es y
        refine ⟨a, ys, h1, ?_, h3⟩
        have : a ≠ p := fun e => z (S.ap i j ds es p hi y hp (e ▸ h1))
        rw [upd_ne this]; exact h2
    · rcases get_set q1 with ⟨z, y⟩ | ⟨z1, y1⟩
      · cases y
      rcases get_set q2 with ⟨z, y⟩ | ⟨z2, y2⟩
      · cases y
      exact S.ap j k es fs a y1 y2 q3 q4
    · rcases get_set q with ⟨z, y⟩ | ⟨z, y⟩
      · cases y
      obtain ⟨u, v, F, a, b, c⟩ := S.rg j r y
      have pf : p ∉ F := c i ds p hi hp
      refine ⟨fun j' r' q' => ?_, v, F, a, ⟨RRp.mono (Same.refl _) rfl rfl r F v b.rp fun d m => upd_ne fun e => pf (e ▸ m), b.nd, b.nw⟩, fun j' ds' p' q1 q2 => ?_⟩
      · rcases get_set q' with ⟨z', y'⟩ | ⟨z', y'⟩
        · cases y'
        · exact u j' r' y'
      · rcases get_set q1 with ⟨z', y'⟩ | ⟨z', y'⟩
        · cases y'
        · exact c j' ds' p' y' q2
  have r := S1.setOw (i := i) (p := p) (xs := xs') (ds := ds') e4 e3 upd_same h (fun j es q z => by
    rcases get_set q with ⟨z', y⟩ | ⟨z', y⟩
    · exact absurd z' z
    · exact fun w => z (S.ap i j ds es p hi y hp w)) (fun j r v F q z w b => by
    rcases get_set q with ⟨z', y⟩ | ⟨z', y⟩
    · exact absurd z' z
    obtain ⟨u, v', F', a', b', c'⟩ := S.rg j r y
    rw [w] at a'; cases a'
    have pf : p ∉ F' := c' i ds p hi hp
    rw [RRp.det r F' F v b'.rp b fun d m => upd_ne fun e => pf (e ▸ m)]
    exact pf)
  rw [← hs, List.set_set] at r
  exact r
/-- a list of one's own is never changed from here on -/
theorem Sim.frz (S : Sim T B G env σ H) {i : Nat} {ds : List D} (hi : env[i]? = some (some (.ow ds))) : ∃ G', Same G G' ∧ Sim T B G' (env.set i (some (.sh (.list ds)))) σ H := by
  obtain ⟨p, xs, e1, e2, e3, e4, e5⟩ := S.ow i ds hi
  have hl : i < σ.length := S.lt hi
  have hs : σ = σ.set i (some (.ref p)) := by
    refine List.ext_getElem? fun j => ?_
    by_cases z : i = j
    · subst z; rw [List.getElem?_set_self hl]; exact e1
    · rw [List.getElem?_set_ne z]
  have sg : Same G (upd G p (.lst xs)) := same_upd e3 _
  have S1 : Sim T B (upd G p (.lst xs)) (env.set i none) σ H := by
    refine ⟨S.st.freeze e4 e3 e2, S.nb, S.me, by rw [List.length_set, S.len], fun j d q => ?_, fun j c fs q => ?_, fun j es q => ?_, fun j k es fs a q1 q2 q3 q4 => ?_, fun j r q => ?_⟩
    · rcases get_set q with ⟨z, y⟩ | ⟨z, y⟩
      · cases y
      · obtain ⟨v, h1, h2⟩ := S.sh j d y; exact ⟨v, h1, h2.mono sg⟩
    · rcases get_set q with ⟨z, y⟩ | ⟨z, y⟩
      · cases y
      · obtain ⟨v, h1, h2⟩ := S.ob j c fs y; exact ⟨v, h1, h2.mono sg⟩
    · rcases get_set q with ⟨z, y⟩ | ⟨z, y⟩
      · cases y
      · obtain ⟨a, ys, h1, h2, h3, h4, h5⟩ := S.ow j es y
        have : a ≠ p := fun e => z (S.ap i j ds es p hi y e1 (e ▸ h1))
        exact ⟨a, ys, h1, h2, by rw [upd_ne this]; exact h3, h4, h5.mono sg⟩
    · rcases get_set q1 with ⟨z, y⟩ | ⟨z1, y1⟩
      · cases y
      rcases get_set q2 with ⟨z, y⟩ | ⟨z2, y2⟩
      · cases y
      exact S.ap j k es fs a y1 y2 q3 q4
    · rcases get_set q with ⟨z, y⟩ | ⟨z, y⟩
      · cases y
      obtain ⟨u, v, F, a, b, c⟩ := S.rg j r y
      have pf : p ∉ F := c i ds p hi e1
      refine ⟨fun j' r' q' => ?_, v, F, a, ⟨RRp.mono sg rfl rfl r F v b.rp fun _ _ => rfl, b.nd, fun d m => ⟨(upd_ne fun (e : d = p) => pf (e ▸ m)).trans (b.nw d m).1, (b.nw d m).2⟩⟩, fun j' ds' p' q1 q2 => ?_⟩
      · rcases get_set q' with ⟨z', y'⟩ | ⟨z', y'⟩
        · cases y'
        · exact u j' r' y'
      · rcases get_set q1 with ⟨z', y'⟩ | ⟨z', y'⟩
        · cases y'
        · exact c j' ds' p' y' q2
  have r := S1.setSh (i := i) (v := .ref p) (d := .list ds) (Dq.lst (SqL.of upd_same) (e5.mono sg))
  rw [← hs, List.set_set] at r
  exact ⟨upd G p (.lst xs), sg, r⟩
end
end VL
namespace VL
open PySem L2
/-! ### what an expression comes to, and what is wanted of it -/
def Out (T : Ct) (EX : XK) (r : R) (G H : Hp) (Q : VK) : Prop := match r with
  | .val (.sh d) => ∀ v G' H', Step G H G' H' → Dq G' v d → Q v H'
  | .val (.ow ds) => ∀ p xs G' H', Step G H G' H' → H p = none → G' p = none → H' p = some (.lst xs) → DqAll G' xs ds → Q (.ref p) H'
  | .val (.ob c fs) => ∀ v G' H', Step G H G' H' → ObRp T G' v c fs → Q v H'
  | .val (.rg r) => ∀ v S G' H', Step G H G' H' → S.Nodup → (∀ a ∈ S, G' a = none ∧ H a = none) → RRp T G' H' S v r → Q v H'
  | .err c => ∀ H', SameH H H' → EX (.ref (T.er c)) none H'
  | .stuck => False
def OutL (T : Ct) (EX : XK) (r : RL) (G H : Hp) (Q : List V → Hp → Prop) : Prop := match r with
  | .val as => ∀ vs G' H', Step G H G' H' → VRpAll T G' vs as → Q vs H'
  | .err c => ∀ H', SameH H H' → EX (.ref (T.er c)) none H'
  | .stuck => False
def OutT (T : Ct) (EX : XK) (r : R) (G H : Hp) (Q : Bool → Hp → Prop) : Prop := match r with
  | .val (.sh (.bool b)) => ∀ G' H', Step G H G' H' → Q b H'
  | .err c => ∀ H', SameH H H' → EX (.ref (T.er c)) none H'
  | _ => False
/-- a walk over data that stands in G -/
def WalksD (J : It) (G : Hp) (ds : List D) : Prop :=
  Walk J ds.length (fun H => Same G H) (fun i H x H' => ∀ Gc, Same G Gc → Same Gc H → ∃ d Gc', ds[i]? = some d ∧ Step Gc H Gc' H' ∧ Dq Gc' x d)
def OutI (T : Ct) (EX : XK) (r : RI) (G H : Hp) (Q : It → Hp → Prop) : Prop := match r with
  | .val ds => ∀ J G' H', Step G H G' H' → WalksD J G' ds → Q J H'
  | .err c => ∀ H', SameH H H' → EX (.ref (T.er c)) none H'
  | .stuck => False
def OutS (T : Ct) (EX : XK) (B : Hp × Hp) (r : SR) (G : Hp) (D : Ends) : Prop := match r with
  | .nx env => ∀ G' σ' H', Same G G' → Sim T B G' env σ' H' → D.nx σ' H'
  | .rt v => Out T EX (.val v) B.1 B.2 D.rt
  | .err c => ∀ H', SameH B.2 H' → EX (.ref (T.er c)) none H'
  | .stuck => False
def rdV (T : Ct) (EX : XK) (B : Hp × Hp) (f : FE) : TE := fun σ H Q => ∃ G env, Sim T B G env σ H ∧ Out T EX (f env) G H Q
def rdT (T : Ct) (EX : XK) (B : Hp × Hp) (f : FE) : TT := fun σ H Q => ∃ G env, Sim T B G env σ H ∧ OutT T EX (f env) G H Q
def rdI (T : Ct) (EX : XK) (B : Hp × Hp) (f : FI) : TI := fun σ H Q => ∃ G env, Sim T B G env σ H ∧ OutI T EX (f env) G H Q
def rdS (T : Ct) (EX : XK) (B : Hp × Hp) (f : FS) : TS := fun D σ H => ∃ G env, Sim T B G env σ H ∧ OutS T EX B (f env) G D

/-! ### arguments -/
@[simp] def SV.fz : SV → SV
  | .ow ds => .sh (.list ds)
  | .rg r => (match r.fzv with
    | some w => w
    | none => .ob 102 [])
  | .sh d => .sh d
  | .ob c fs => .ob c fs
/-- as a value to be handed on -/
@[simp] def R.v (r : R) (k : SV → R) : R := match r with
  | .val v => k v.fz
  | .err c => .err c
  | .stuck => .stuck
/-- as data -/
@[simp] def R.d (r : R) (k : D → R) : R := match r with
  | .val (.sh d) => k d
  | .val (.ow ds) => k (.list ds)
  | .val (.ob _ _) => .stuck
  | .val (.rg r) => (match r.toD with
    | some d => k d
    | none => .stuck)
  | .err c => .err c
  | .stuck => .stuck
@[simp] def RL.b (r : RL) (k : List SV → R) : R := match r with
  | .val as => k as
  | .err c => .err c
  | .stuck => .stuck
@[simp] def RL.cons (a : SV) (r : RL) : RL := match r with
  | .val as => .val (a :: as)
  | .err c => .err c
  | .stuck => .stuck
@[simp] def evA : List FE → VEnv → RL
  | [], _ => .val []
  | f :: fs, env => match f env with
    | .val v => (evA fs env).cons v.fz
    | .err c => .err c
    | .stuck => .stuck
def rdA (T : Ct) (EX : XK) (B : Hp × Hp) (fs : List FE) : TA := fun σ H Q => ∃ G env, Sim T B G env σ H ∧ OutL T EX (evA fs env) G H Q

section
variable {T : Ct} {EX : XK} {B : Hp × Hp} {G G1 H H1 : Hp} {env : VEnv} {σ : L2.St}
theorem Out.step {r : R} {Q : VK} (h : Out T EX r G H Q) (s : Step G H G1 H1) : Out T EX r G1 H1 Q := by
  cases r with
  | val v =>
    cases v with
    | sh d => exact fun v G' H' s' q => h v G' H' (s.trans s') q
    | ow ds => exact fun p xs G' H' s' n1 n2 e q => h p xs G' H' (s.trans s') (SameH.free s.hh n1) n2 e q
    | ob c fs => exact fun v G' H' s' q => h v G' H' (s.trans s') q
    | rg r => exact fun v S G' H' s' nd nw q => h v S G' H' (s.trans s') nd (fun a m => ⟨(nw a m).1, SameH.free s.hh (nw a m).2⟩) q
  | err c => exact fun H' q => h H' (s.hh.trans q)
  | stuck => exact h
theorem Out.mono {r : R} {Q Q' : VK} (h : Out T EX r G H Q) (q : ∀ v H', Q v H' → Q' v H') : Out T EX r G H Q' := by
  cases r with
  | val v =>
    cases v with
    | sh d => exact fun v G' H' s' z => q _ _ (h v G' H' s' z)
    | ow ds => exact fun p xs G' H' s' n1 n2 e z => q _ _ (h p xs G' H' s' n1 n2 e z)
    | ob c fs => exact fun v G' H' s' z => q _ _ (h v G' H' s' z)
    | rg r => exact fun v S G' H' s' nd nw z => q _ _ (h v S G' H' s' nd nw z)
  | err c => exact h
  | stuck => exact h
theorem OutL.step {r : RL} {Q : List V → Hp → Prop} (h : OutL T EX r G H Q) (s : Step G H G1 H1) : OutL T EX r G1 H1 Q := by
  cases r with
  | val as => exact fun v G' H' s' q => h v G' H' (s.trans s') q
  | err c => exact fun H' q => h H' (s.hh.trans q)
  | stuck => exact h
/-- a value, kept apart or not, is from here on never changed -/
theorem Out.fz {v : SV} {Q : VK} (h : ∀ x G' H', Step G H G' H' → VRp T G' x v.fz → Q x H') : Out T EX (.val v) G H Q := by
  cases v with
  | rg r =>
    refine fun x S G' H' s nd nw q => ?_
    have k := RRp.at r S x q
    refine h x (addS G' H' S) H' (s.frzS nw k) ?_
    simp only [SV.fz]
    split
    · rename_i w ew
      exact RRp.fzv (addS_same fun a m => (nw a m).1) q (fun a m => addS_in m) ew
    · show ObRp T _ x 102 []
      unfold ObRp
      rw [if_neg (by decide), if_neg (by decide), if_pos rfl]
      trivial
  | sh d => exact h
  | ow ds =>
    intro p xs G' H' s n1 n2 e q
    have sg : Same G' (upd G' p (.lst xs)) := same_upd n2 _
    exact h (.ref p) (upd G' p (.lst xs)) H' (s.freeze n1 n2 e) (Dq.lst (SqL.of upd_same) (q.mono sg))
  | ob c fs => exact h
/-- first a value, then what is made of it -/
theorem seqV {f : FE} {k : SV → R} {Q : VK} (S : Sim T B G env σ H) (h : Out T EX ((f env).v k) G H Q) :
    rdV T EX B f σ H (fun v H1 => ∃ a G1, Step G H G1 H1 ∧ VRp T G1 v a ∧ Sim T B G1 env σ H1 ∧ Out T EX (k a) G1 H1 Q) := by
  refine ⟨G, env, S, ?_⟩
  revert h
  cases f env with
  | val v => exact fun h => Out.fz fun x G' H' s q => ⟨v.fz, G', s, q, S.step s, Out.step h s⟩
  | err c => exact fun h => h
  | stuck => exact fun h => h
theorem seqD {f : FE} {k : D → R} {Q : VK} (S' : Sim T B G env σ H) (h : Out T EX ((f env).d k) G H Q) :
    rdV T EX B f σ H (fun v H1 => ∃ d G1, Step G H G1 H1 ∧ Dq G1 v d ∧ Sim T B G1 env σ H1 ∧ Out T EX (k d) G1 H1 Q) := by
  refine ⟨G, env, S', ?_⟩
  revert h
  cases f env with
  | val v =>
    cases v with
    | sh d => exact fun h => Out.fz fun x G' H' s q => ⟨d, G', s, q, S'.step s, Out.step h s⟩
    | ow ds => exact fun h => Out.fz fun x G' H' s q => ⟨.list ds, G', s, q, S'.step s, Out.step h s⟩
    | ob c fs => exact fun h => h.elim
    | rg r =>
      intro h v S G' H' s nd nw q
      dsimp only [R.d] at h
      split at h
      · rename_i d ed
        have s2 := s.frzS nw (RRp.at r S v q)
        exact ⟨d, addS G' H' S, s2, RRp.frz (addS_same fun a m => (nw a m).1) r S v d q (fun a m => addS_in m) ed, S'.step s2, Out.step h s2⟩
      · exact h.elim
  | err c => exact fun h => h
  | stuck => exact fun h => h
theorem rdV_mono {f : FE} {Q Q' : VK} (h : rdV T EX B f σ H Q) (q : ∀ v H', Q v H' → Q' v H') : rdV T EX B f σ H Q' :=
  let ⟨G, env, S, o⟩ := h; ⟨G, env, S, o.mono q⟩
theorem rdA_cons {f : FE} {fs : List FE} {Q : List V → Hp → Prop} (h : rdA T EX B (f :: fs) σ H Q) : rdV T EX B f σ H (fun x H1 => rdA T EX B fs σ H1 fun xs H2 => Q (x :: xs) H2) := by
  obtain ⟨G, env, S, o⟩ := h
  refine ⟨G, env, S, ?_⟩
  unfold evA at o
  revert o
  cases f env with
  | val v =>
    intro o
    refine Out.fz fun x G' H' s q => ⟨G', env, S.step s, ?_⟩
    dsimp only at o
    revert o
    cases evA fs env with
    | val as => exact fun o vs G'' H'' s' qs => o (x :: vs) G'' H'' (s.trans s') (.cons (q.mono s'.gg) qs)
    | err c => exact fun o H'' z => o H'' (s.hh.trans z)
    | stuck => exact fun o => o.elim
  | err c => exact fun o => o
  | stuck => exact fun o => o
theorem rdA_seq {fs : List FE} {k : List SV → R} {Q : VK} (S : Sim T B G env σ H) (h : Out T EX ((evA fs env).b k) G H Q) :
    rdA T EX B fs σ H (fun vs H1 => ∃ as G1, Step G H G1 H1 ∧ VRpAll T G1 vs as ∧ evA fs env = .val as ∧ Sim T B G1 env σ H1 ∧ Out T EX (k as) G1 H1 Q) := by
  refine ⟨G, env, S, ?_⟩
  revert h
  cases evA fs env with
  | val as => exact fun h vs G' H' s q => ⟨as, G', s, q, rfl, S.step s, Out.step h s⟩
  | err c => exact fun h => h
  | stuck => exact fun h => h
end

/-! ### the judgements -/
theorem pe_weak {X : Cx} {e : Expr} {t t' : TE} (h : PE X e t) (w : ∀ σ H Q, t' σ H Q → t σ H Q) : PE X e t' := ⟨fun pins s σ H Q I q => h.run pins s σ H Q I (w σ H Q q)⟩
theorem pt_weak {X : Cx} {e : Expr} {t t' : TT} (h : PT X e t) (w : ∀ σ H Q, t' σ H Q → t σ H Q) : PT X e t' := ⟨fun pins s σ H Q I q => h.run pins s σ H Q I (w σ H Q q)⟩
theorem pw_weak {X : Cx} {e : Expr} {t t' : TT} (h : PW X e t) (w : ∀ σ H Q, t' σ H Q → t σ H Q) : PW X e t' := ⟨fun wh pins s σ H Q I q => h.run wh pins s σ H Q I (w σ H Q q)⟩
theorem pa_weak {X : Cx} {es : List Expr} {t t' : TA} (h : PA X es t) (w : ∀ σ H Q, t' σ H Q → t σ H Q) : PA X es t' := ⟨fun pos pins s σ H Q I q => h.run pos pins s σ H Q I (w σ H Q q)⟩
theorem ps_weak {X : Cx} {st : Stmt} {t t' : TS} (h : PS X st t) (w : ∀ D σ H, t' D σ H → t D σ H) : PS X st t' := ⟨fun pins s σ H D I q => h.run pins s σ H D I (w D σ H q)⟩
theorem pss_weak {X : Cx} {st : List Stmt} {t t' : TS} (h : PSs X st t) (w : ∀ D σ H, t' D σ H → t D σ H) : PSs X st t' := ⟨fun pins s σ H D I q => h.run pins s σ H D I (w D σ H q)⟩
theorem pi_weak {X : Cx} {tg e : Expr} {t t' : TI} (h : PI X tg e t) (w : ∀ σ H Q, t' σ H Q → t σ H Q) : PI X tg e t' := ⟨fun pins s σ H Q I q => h.run pins s σ H Q I (w σ H Q q)⟩
/-- the context of a pure walk -/
structure Cv (X : Cx) (T : Ct) (EX : XK) (B : Hp × Hp) : Prop where
  calm : X.calm = true
  nd : X.N.Nodup
  pass : Passes (L2.CX X.prog X.w) X EX
  un : X.A.units + 150 < cLine
  gd : X.A.guards = some []
def VE (X : Cx) (T : Ct) (EX : XK) (B : Hp × Hp) (e : Expr) (f : FE) : Prop := PE X e (rdV T EX B f)
def VT (X : Cx) (T : Ct) (EX : XK) (B : Hp × Hp) (e : Expr) (f : FE) : Prop := PT X e (rdT T EX B f)
def VW (X : Cx) (T : Ct) (EX : XK) (B : Hp × Hp) (e : Expr) (f : FE) : Prop := PW X e (rdT T EX B f)
def VA (X : Cx) (T : Ct) (EX : XK) (B : Hp × Hp) (es : List Expr) (fs : List FE) : Prop := PA X es (rdA T EX B fs)
def VI (X : Cx) (T : Ct) (EX : XK) (B : Hp × Hp) (tg e : Expr) (f : FI) : Prop := PI X tg e (rdI T EX B f)
def VS (X : Cx) (T : Ct) (EX : XK) (B : Hp × Hp) (st : Stmt) (f : FS) : Prop := PS X st (rdS T EX B f)
def VSs (X : Cx) (T : Ct) (EX : XK) (B : Hp × Hp) (st : List Stmt) (f : FS) : Prop := PSs X st (rdS T EX B f)
section
variable {X : Cx} {T : Ct} {EX : XK} {B : Hp × Hp} {e a b c : Expr} {es : List Expr} {pos p p2 : Pos} {f g h : FE} {fs : List FE}

/-! ### names, constants -/
@[simp] def vVar (i : Nat) : FE := fun env => match env[i]? with
  | some (some (.sh d)) => .val (.sh d)
  | some (some (.ob c fs)) => .val (.ob c fs)
  | _ => .stuck
theorem ve_var (i : Nat) {x : Str} (hN : X.N[i]? = some x := by rfl) (hv : Vis X.env.scope x := by first | exact Or.inl rfl | exact Or.inr (Or.inl rfl) | exact Or.inr (Or.inr rfl)) (hd : (x == ("__debug__" : Str)) = false := by decide)
    (hcd : (x == ("__classdict__" : Str)) = false := by decide) : VE X T EX B (.Name x pos) (vVar i) := by
  refine pe_weak (pe_var hN hv hd hcd) fun σ H Q q => ?_
  obtain ⟨G, env, S, o⟩ := q
  unfold vVar at o
  split at o
  · rename_i d e
    obtain ⟨v, h1, h2⟩ := S.sh i d e
    exact ⟨v, h1, o v G H (Step.refl S.gh) h2⟩
  · rename_i c fs e
    obtain ⟨v, h1, h2⟩ := S.ob i c fs e
    exact ⟨v, h1, o v G H (Step.refl S.gh) h2⟩
  · exact o.elim
@[simp] def vC (d : D) : FE := fun _ => .val (.sh d)
theorem ve_int {i j} : VE X T EX B (.Constant (.int i) j pos) (vC (.int i)) := pe_weak pe_int fun σ H Q q => by
  obtain ⟨G, env, S, o⟩ := q
  exact o _ G H (Step.refl S.gh) .int
theorem ve_bl {i j} : VE X T EX B (.Constant (.bool i) j pos) (vC (.bool i)) := pe_weak pe_bl fun σ H Q q => by
  obtain ⟨G, env, S, o⟩ := q
  exact o _ G H (Step.refl S.gh) .bl
theorem ve_non {j} : VE X T EX B (.Constant .none j pos) (vC .none) := pe_weak pe_non fun σ H Q q => by
  obtain ⟨G, env, S, o⟩ := q
  exact o _ G H (Step.refl S.gh) .non
theorem ve_str {i : Str} {j} (ok : (PyData.str i).canLay0 = true := by decide +kernel) : VE X T EX B (.Constant (.str i) j pos) (vC (.str i)) := pe_weak pe_str fun σ H Q q => by
  obtain ⟨G, env, S, o⟩ := q
  exact o _ G H (Step.refl S.gh) ⟨.str i, ok⟩
/-- a module's constant, an int -/
theorem ve_gint {x : Str} {i : Int} {t : Tok} (hg : Gl X x) (hm : X.mg x = some (.int i t)) (hd : (x == ("__debug__" : Str)) = false := by decide) : VE X T EX B (.Name x pos) (vC (.int i)) := pe_weak (pe_glob (v := .int i) hg hm ⟨t, rfl⟩ hd) fun σ H Q q => by
  obtain ⟨G, env, S, o⟩ := q
  exact o _ G H (Step.refl S.gh) .int

/-! ### arguments, displays -/
theorem va_nil : VA X T EX B [] [] := pa_weak pa_nil fun σ H Q q => by
  obtain ⟨G, env, S, o⟩ := q
  exact o [] G H (Step.refl S.gh) .nil
theorem va_cons (ha : VE X T EX B e f) (hr : VA X T EX B es fs) (hs : starEach (e :: es) X.env = (false, eval e X.env) :: starEach es X.env := by rfl) : VA X T EX B (e :: es) (f :: fs) :=
  pa_weak (pa_cons ha hr hs) fun σ H Q q => rdA_cons q
/-- values that are data -/
@[simp] def dats : List SV → Option (List D)
  | [] => some []
  | .sh d :: r => (dats r).map (d :: ·)
  | _ :: _ => none
theorem dats_ok {G : Hp} : ∀ {as : List SV} {vs : List V} {ds : List D}, VRpAll T G vs as → dats as = some ds → DqAll G vs ds
  | [], _, _, .nil, e => by cases e; exact .nil
  | .sh d :: r, _, _, .cons h t, e => by
    unfold dats at e
    obtain ⟨l, e1, rfl⟩ := Option.map_eq_some_iff.mp e
    exact .cons h (dats_ok t e1)
  | .ow _ :: _, _, _, _, e => by unfold dats at e; cases e
  | .ob _ _ :: _, _, _, _, e => by unfold dats at e; cases e
  | .rg _ :: _, _, _, _, e => by unfold dats at e; cases e
/-- a size that a list or a tuple may have -/
@[simp] def gl (n : Nat) (r : R) : R := if n ≤ 1000000 then r else .stuck
theorem gl_ok {n : Nat} {r : R} (h : n ≤ 1000000) : gl n r = r := if_pos h
theorem gl_line {n : Nat} (h : n ≤ 1000000) : n < sizeLine := by rw [sizeLine_eq]; omega
@[simp] def vTup (fs : List FE) : FE := fun env => (evA fs env).b fun as => match dats as with
  | some ds => gl ds.length (.val (.sh (.tuple ds)))
  | none => .stuck
@[simp] def vLst (fs : List FE) : FE := fun env => (evA fs env).b fun as => match dats as with
  | some ds => gl ds.length (.val (.ow ds))
  | none => .stuck
theorem args_use {r : List V → Hp → VK → Prop} {k : List SV → R} {σ : L2.St} {H : Hp} {Q : VK} (prim : ∀ vs as G H, Same G H → VRpAll T G vs as → Out T EX (k as) G H Q → r vs H Q)
    (q : rdV T EX B (fun env => (evA fs env).b k) σ H Q) : rdA T EX B fs σ H (fun vs H1 => r vs H1 Q) := by
  obtain ⟨G, env, S, o⟩ := q
  obtain ⟨G2, env2, S2, o2⟩ := rdA_seq S o
  refine ⟨G2, env2, S2, ?_⟩
  revert o2
  cases evA fs env2 with
  | val as2 =>
    intro o2 vs G' H' s q
    obtain ⟨as, G1, s1, r, _, S1, o⟩ := o2 vs G' H' s q
    exact prim vs as G1 H' S1.gh r o
  | err c => exact fun o => o
  | stuck => exact fun o => o
theorem ve_tup {x1} (h : VA X T EX B es fs) : VE X T EX B (.Tuple es x1 pos) (vTup fs) := by
  refine pe_weak (pe_tup h) fun σ H Q q => args_use (r := fun xs H1 Q => xs.length ≤ sizeLine ∧ ∀ p, H1 p = none → Q (.ref p) (upd H1 p (.tup xs))) (fun vs as G H gh r o => ?_) q
  split at o
  · rename_i ds e
    have d := dats_ok r e
    unfold gl at o
    split at o
    · rename_i hl
      refine ⟨by rw [d.length]; exact Nat.le_of_lt (gl_line hl), fun p hp => ?_⟩
      exact o (.ref p) _ _ (Step.new gh hp (.tup vs)) (Dq.tup (SqT.of upd_same) (d.mono (same_upd (same_none gh hp) _)))
    · exact o.elim
  · exact o.elim
theorem ve_lst (h : VA X T EX B es fs) : VE X T EX B (.List es pos) (vLst fs) := by
  refine pe_weak (pe_lst h) fun σ H Q q => args_use (r := fun xs H1 Q => xs.length ≤ sizeLine ∧ ∀ p, H1 p = none → Q (.ref p) (upd H1 p (.lst xs))) (fun vs as G H gh r o => ?_) q
  split at o
  · rename_i ds e
    have d := dats_ok r e
    unfold gl at o
    split at o
    · rename_i hl
      refine ⟨by rw [d.length]; exact Nat.le_of_lt (gl_line hl), fun p hp => ?_⟩
      exact o p vs G _ (Step.apart gh hp (.lst vs)) hp (same_none gh hp) upd_same d
    · exact o.elim
  · exact o.elim

/-! ### two operands -/
@[simp] def op2 (F : D → D → R) (f g : FE) : FE := fun env => (f env).d fun x => (g env).d fun y => F x y
@[simp] def op1 (F : D → R) (f : FE) : FE := fun env => (f env).d F
theorem use1 {r : V → Hp → VK → Prop} {F : D → R} {σ : L2.St} {H : Hp} {Q : VK} (prim : ∀ x dx G H, Same G H → Dq G x dx → Out T EX (F dx) G H Q → r x H Q)
    (q : rdV T EX B (op1 F f) σ H Q) : rdV T EX B f σ H (fun x H1 => r x H1 Q) := by
  obtain ⟨G, env, S, o⟩ := q
  exact rdV_mono (seqD S o) fun v H1 ⟨d, G1, s, dq, S1, o1⟩ => prim v d G1 H1 S1.gh dq o1
theorem use2 {r : R2} {F : D → D → R} {σ : L2.St} {H : Hp} {Q : VK} (prim : ∀ x y dx dy G H, Same G H → Dq G x dx → Dq G y dy → Out T EX (F dx dy) G H Q → r x y H Q)
    (q : rdV T EX B (op2 F f g) σ H Q) : rdV T EX B f σ H (fun x H1 => rdV T EX B g σ H1 fun y H2 => r x y H2 Q) := by
  obtain ⟨G, env, S, o⟩ := q
  refine rdV_mono (seqD S o) fun v H1 ⟨d, G1, s, dq, S1, o1⟩ => ?_
  exact rdV_mono (seqD S1 o1) fun w H2 ⟨d2, G2, s2, dq2, S2, o2⟩ => prim v w d d2 G2 H2 S2.gh (dq.mono s2.gg) dq2 o2
theorem ve_bin {op : Operator} {r : R2} {F : D → D → R} (ho : OpR X (binaryOp op) r) (prim : ∀ Q x y dx dy G H, Same G H → Dq G x dx → Dq G y dy → Out T EX (F dx dy) G H Q → r x y H Q) (ha : VE X T EX B a f) (hb : VE X T EX B b g) :
    VE X T EX B (.BinOp a op b pos) (op2 F f g) := pe_weak (pe_op ho ha hb) fun σ H Q q => use2 (prim Q) q
theorem ve_cmp {op : CmpOp} {r : R2} {F : D → D → R} (ho : OpR X (compareOp op) r) (prim : ∀ Q x y dx dy G H, Same G H → Dq G x dx → Dq G y dy → Out T EX (F dx dy) G H Q → r x y H Q) (ha : VE X T EX B a f) (hb : VE X T EX B b g) (hm : behindInMarks op b = false) :
    VE X T EX B (.Compare a [op] [b] pos) (op2 F f g) := pe_weak (pe_cmpR ho ha hb hm) fun σ H Q q => use2 (prim Q) q
end
end VL
namespace VL
open PySem L2
/-! ### from the tracked heap to the layer's rules -/
theorem sqL_K {K : PySem.W.Frag} {H : Hp} {a : Addr} {xs : List V} (h : SqL [] H a xs) : SqL K H a xs := by
  rcases h with h | ⟨o, its, n, hk, _⟩
  · exact .inl h
  · cases hk
theorem sqT_K {K : PySem.W.Frag} {H : Hp} {a : Addr} {xs : List V} (h : SqT [] H a xs) : SqT K H a xs := by
  rcases h with h | ⟨o, its, n, hk, _⟩
  · exact .inl h
  · cases hk
mutual
theorem dp_K {K : PySem.W.Frag} {G : Hp} : ∀ (d : D) (v : V), Dp [] G v d → Dp K G v d
  | .none, _, h => by cases h; exact .non
  | .bool b, _, h => by cases h; exact .bl b
  | .int i, _, h => by cases h; exact .int i
  | .str x, _, h => by cases h; exact .str x
  | .list ds, _, h => by
    cases h with
    | lst hs ha => exact .lst (sqL_K hs) (dpAll_K ds _ ha)
  | .tuple ds, _, h => by
    cases h with
    | tup hs ha => exact .tup (sqT_K hs) (dpAll_K ds _ ha)
  | .dict _, _, h => by cases h
theorem dpAll_K {K : PySem.W.Frag} {G : Hp} : ∀ (ds : List D) (vs : List V), DpAll [] G vs ds → DpAll K G vs ds
  | [], _, h => by cases h; exact .nil
  | d :: ds, _, h => by
    cases h with
    | cons h1 h2 => exact .cons (dp_K d _ h1) (dpAll_K ds _ h2)
end
theorem Dq.K {K : PySem.W.Frag} {G : Hp} {v : V} {d : D} (h : Dq G v d) : Dp K G v d := dp_K d v h.dp
section
variable {X : Cx}
theorem rd_lst {pins : List (Addr × Obj)} {σ : L2.St} {H : Hp} {s : Shared} {l : Addr} {xs : List V} (I : Inv X pins σ H s) (hH : SqL [] H l xs) : xs.length ≤ sizeLine ∧ ∃ (its : List Value) (n : Nat), Vals xs its ∧ xs.length = its.length ∧ s.heap.get? l = some { cls := .type "list", data := .seq its.toArray n } := by
  rcases hH with h | ⟨o, its, n, hk, _⟩
  · obtain ⟨z, its, n, r, e⟩ := h.ok I.hok
    exact ⟨z, its, n, r, r.length, e⟩
  · cases hk
/-- + of two lists, changed or not -/
def rCatR : R2 := fun x y H Q => ∃ l b xs zs, x = .ref l ∧ y = .ref b ∧ SqL [] H l xs ∧ SqL [] H b zs ∧ xs.length + zs.length ≤ sizeLine ∧ ∀ p, H p = none → Q (.ref p) (upd H p (.lst (xs ++ zs)))
theorem op_catR : OpR X (binaryOp .Add) rCatR := by
  intro pins s σ H x y v u Q I rx ry h
  obtain ⟨l, b, xs, zs, rfl, rfl, hH, hB, hz, q⟩ := h
  cases rx
  cases ry
  obtain ⟨z, its, n, r, hl, e⟩ := rd_lst I hH
  obtain ⟨z2, its2, n2, r2, hl2, e2⟩ := rd_lst I hB
  refine PySem.P.add_list e e2 ?_ (by rw [List.size_toArray, List.size_toArray]; omega)
  have ea : its.toArray ++ its2.toArray = (its ++ its2).toArray := by simp
  rw [ea]
  exact ⟨.ref _, _, I.lnew (t' := s.toks) (r.append r2) (by rw [List.length_append]; omega), rfl, q _ I.fresh⟩
def rRepR : R2 := fun x y H Q => ∃ l k xs, x = .ref l ∧ y = .int k ∧ SqL [] H l xs ∧ -(2 ^ 63) ≤ k ∧ k < 2 ^ 63 ∧ xs.length * k.toNat ≤ sizeLine ∧
  ∀ p, H p = none → Q (.ref p) (upd H p (.lst (List.replicate k.toNat xs).flatten))
theorem op_repR : OpR X (binaryOp .Mult) rRepR := by
  intro pins s σ H x y v u Q I rx ry h
  obtain ⟨l, k, xs, rfl, rfl, hH, h1, h2, hz, q⟩ := h
  cases rx
  obtain ⟨t, rfl⟩ := ry
  obtain ⟨z, its, n, r, hl, e⟩ := rd_lst I hH
  have hlen : its.toArray.size * k.toNat ≤ sizeLine := by rw [List.size_toArray, ← hl]; exact hz
  have hcap : ¬ its.toArray.size * k.toNat > (2 ^ 63 - 1) / 8 := by
    have : (sizeLine : Nat) ≤ (2 ^ 63 - 1) / 8 := by decide
    omega
  have hfit : ¬ (!Builtin.List.listFitsIndex k) = true := by
    rw [fitsIndex_both h1 h2]
    exact Bool.false_ne_true
  have hlong : ¬ Builtin.List.listTooLong (its.toArray.size * k.toNat) = true := by
    rw [notLongL hlen]
    exact Bool.false_ne_true
  have hnew : List.foldl (fun x1 x2 => x1 ++ x2) #[] (List.replicate (if its.toArray.isEmpty = true then 0 else k.toNat) its.toArray) = (List.replicate k.toNat its).flatten.toArray := by
    have f0 : ∀ m : Nat, List.foldl (fun x1 x2 => x1 ++ x2) #[] (List.replicate m its.toArray) = (List.replicate m its).flatten.toArray := fun m => by
      have := foldl_rep its m []
      rw [List.nil_append] at this
      exact this
    rw [f0]
    cases its with
    | nil => simp
    | cons a r' => rw [if_neg (by simp)]
  refine wpAny_binaryOp_repeat_ref (T := "list") (U := "int") (by decide) ⟨_, e, rfl⟩ (fun s' => typeIs_int s' k t) noFill_list_mul F.fills_int_mul F.slot_int_rmul repeat_list F.slot_int_index.lookup
    (call_meets F.slot_int_rmul (typeIs_int s k t) F.entry_int_rmul (F.args_int_rmul_2 _ _) (int___rmul___int_list k t l its.toArray n)
      ⟨e, rfl, ⟨_, e, rfl⟩, call_meets F.slot_list_mul ⟨_, e, rfl⟩ F.entry_list_mul (F.args_list_mul_2 _ _) (AutoListH.list___mul___list_int_3 l its.toArray n k t hfit hcap hlong) ⟨e, ?_⟩⟩)
  rw [hnew]
  exact ⟨.ref _, _, I.lnew (t' := s.toks) (r.rep k.toNat) (by rw [PyProof.Rows.lm_len_rep_flat, Nat.mul_comm]; exact hz), rfl, q _ I.fresh⟩
theorem op_mulB : OpR X (binaryOp .Mult) (rI IntMulOk fun i j => .int (i * j)) := opI fun _ _ _ _ _ _ _ hc q => PyProof.Rows.mul_int q hc
/-- == and != of data, the lesser depth bounded -/
def rEqQ (k : Bool) : R2 := fun x y H Q => ∃ d e, Dq H x d ∧ Dq H y e ∧ min d.depth e.depth ≤ 100 ∧ Q (.bl (k ^^ PyData.eqv d e)) H
theorem op_eqQ (hu : X.A.units + 150 < cLine) : OpR X (compareOp .Eq) (rEqQ false) := by
  intro pins s σ H x y v u Q I rx ry h
  obtain ⟨d, e, hd, he, sd, q⟩ := h
  obtain ⟨as, r1⟩ := Dp.reads I d x v hd.K rx
  obtain ⟨bs, r2⟩ := Dp.reads I e y u he.K ry
  rw [Bool.false_xor] at q
  exact SeqAt.compareEq_reads r1 r2 hd.ok he.ok (by omega) ⟨.bl _, H, I, rfl, q⟩
theorem op_neQ (hu : X.A.units + 150 < cLine) : OpR X (compareOp .NotEq) (rEqQ true) := by
  intro pins s σ H x y v u Q I rx ry h
  obtain ⟨d, e, hd, he, sd, q⟩ := h
  obtain ⟨as, r1⟩ := Dp.reads I d x v hd.K rx
  obtain ⟨bs, r2⟩ := Dp.reads I e y u he.K ry
  rw [Bool.true_xor] at q
  exact SeqAt.compareNe_reads r1 r2 hd.ok he.ok (by omega) ⟨.bl _, H, I, rfl, q⟩
end

/-! ### operators on data -/
abbrev ok (d : D) : R := .val (.sh d)
abbrev rb (b : Bool) : R := .val (.sh (.bool b))
abbrev ri (i : Int) : R := .val (.sh (.int i))
def mulOk (i j : Int) : Bool := !(decide (Builtin.Int.intBits i > shortFactorBits) && decide (Builtin.Int.intBits j > shortFactorBits) && Builtin.Int.intTooBig (Builtin.Int.intBits i + Builtin.Int.intBits j))
theorem mulOk_iff {i j : Int} : mulOk i j = true ↔ IntMulOk i j := by
  unfold mulOk IntMulOk
  cases (decide (Builtin.Int.intBits i > shortFactorBits) && decide (Builtin.Int.intBits j > shortFactorBits) && Builtin.Int.intTooBig (Builtin.Int.intBits i + Builtin.Int.intBits j)) <;> simp
@[simp] def fAdd : D → D → R
  | .int i, .int j => ri (i + j)
  | .list xs, .list ys => gl (xs.length + ys.length) (.val (.ow (xs ++ ys)))
  | _, _ => .stuck
@[simp] def fSub : D → D → R
  | .int i, .int j => ri (i - j)
  | _, _ => .stuck
@[simp] def fMul : D → D → R
  | .int i, .int j => if mulOk i j = true then ri (i * j) else .stuck
  | .list xs, .int k => if k ≤ 1000000 ∧ xs.length * k.toNat ≤ 1000000 ∧ -1000 ≤ k then .val (.ow (List.replicate k.toNat xs).flatten) else .stuck
  | _, _ => .stuck
@[simp] def fDiv : D → D → R
  | .int i, .int j => if 0 < j ∧ j < 1073741824 then ri (i / j) else .stuck
  | _, _ => .stuck
@[simp] def fMod : D → D → R
  | .int i, .int j => if 0 < j then ri (i % j) else .stuck
  | _, _ => .stuck
@[simp] def fPow : D → D → R
  | .int i, .int j => if 0 ≤ j ∧ j ≤ 1000000 ∧ i.natAbs < 2 ^ 64 then ri (i ^ j.toNat) else .stuck
  | _, _ => .stuck
@[simp] def fShl : D → D → R
  | .int i, .int j => if 0 ≤ j ∧ j ≤ 1000000 ∧ i.natAbs < 2 ^ 64 then ri (i * 2 ^ j.toNat) else .stuck
  | _, _ => .stuck
@[simp] def fShr : D → D → R
  | .int i, .int j => if 0 ≤ j then ri (i / 2 ^ j.toNat) else .stuck
  | _, _ => .stuck
@[simp] def fAnd : D → D → R
  | .int i, .int j => ri (Builtin.bitAnd i j)
  | _, _ => .stuck
@[simp] def fNeg : D → R
  | .int i => ri (-i)
  | _ => .stuck
def fEq (x y : D) : R := if min x.depth y.depth ≤ 100 then rb (PyData.eqv x y) else .stuck
def fNe (x y : D) : R := if min x.depth y.depth ≤ 100 then rb (!PyData.eqv x y) else .stuck
@[simp] def fLt : D → D → R
  | .int i, .int j => rb (decide (i < j))
  | _, _ => .stuck
@[simp] def fLe : D → D → R
  | .int i, .int j => rb (decide (i ≤ j))
  | _, _ => .stuck
@[simp] def fGt : D → D → R
  | .int i, .int j => rb (decide (j < i))
  | _, _ => .stuck
@[simp] def fGe : D → D → R
  | .int i, .int j => rb (decide (j ≤ i))
  | _, _ => .stuck
@[simp] def fIx : D → D → R
  | .tuple ds, .int i => match atI ds i with
    | some d => ok d
    | none => .stuck
  | .list ds, .int i => match atI ds i with
    | some d => ok d
    | none => .stuck
  | _, _ => .stuck
section
variable {X : Cx} {T : Ct} {EX : XK} {B : Hp × Hp} {e a b c : Expr} {es : List Expr} {pos p p2 : Pos} {f g h : FE} {fs : List FE} {G H : Hp} {Q : VK}
theorem Out.ok {d : D} {v : V} (o : Out T EX (.val (.sh d)) G H Q) (gh : Same G H) (q : Dq G v d) : Q v H := o v G H (Step.refl gh) q
theorem Out.rb {k : Bool} (o : Out T EX (rb k) G H Q) (gh : Same G H) : Q (.bl k) H := o.ok gh .bl
theorem Out.ri {k : Int} (o : Out T EX (ri k) G H Q) (gh : Same G H) : Q (.int k) H := o.ok gh .int
/-- a new list -/
theorem Out.newL {ds : List D} {xs : List V} (o : Out T EX (.val (.ow ds)) G H Q) (gh : Same G H) (q : DqAll G xs ds) : ∀ p, H p = none → Q (.ref p) (upd H p (.lst xs)) := fun p hp =>
  o p xs G _ (Step.apart gh hp (.lst xs)) hp (same_none gh hp) upd_same q
theorem Dq.lstH {v : V} {ds : List D} (h : Dq G v (.list ds)) (gh : Same G H) : ∃ a xs, v = .ref a ∧ SqL [] H a xs ∧ DqAll G xs ds := by
  obtain ⟨a, xs, e, s, q⟩ := h.lstInv
  exact ⟨a, xs, e, gh.seq s, q⟩
theorem Dq.tupH {v : V} {ds : List D} (h : Dq G v (.tuple ds)) (gh : Same G H) : ∃ a xs, v = .ref a ∧ SqT [] H a xs ∧ DqAll G xs ds := by
  obtain ⟨a, xs, e, s, q⟩ := h.tupInv
  exact ⟨a, xs, e, same_seqT gh s, q⟩
theorem gl_out {n : Nat} {r : R} (o : Out T EX (gl n r) G H Q) : n ≤ 1000000 ∧ Out T EX r G H Q := by
  unfold gl at o
  split at o
  · exact ⟨by assumption, o⟩
  · exact o.elim
theorem ve_add (ha : VE X T EX B a f) (hb : VE X T EX B b g) : VE X T EX B (.BinOp a .Add b pos) (op2 fAdd f g) := by
  refine ve_bin (op_add.or op_catR) (fun Q x y dx dy G H gh hx hy o => ?_) ha hb
  unfold fAdd at o
  split at o
  · rw [hx.intInv, hy.intInv]; exact .inl ⟨_, _, rfl, rfl, o.ri gh⟩
  · obtain ⟨hl, o⟩ := gl_out o
    obtain ⟨l, xs, rfl, s1, q1⟩ := hx.lstH gh
    obtain ⟨l2, ys, rfl, s2, q2⟩ := hy.lstH gh
    exact .inr ⟨l, l2, xs, ys, rfl, rfl, s1, s2, by rw [q1.length, q2.length]; exact Nat.le_of_lt (gl_line hl), o.newL gh (q1.append q2)⟩
  · exact o.elim
theorem ve_sub (ha : VE X T EX B a f) (hb : VE X T EX B b g) : VE X T EX B (.BinOp a .Sub b pos) (op2 fSub f g) := by
  refine ve_bin op_sub (fun Q x y dx dy G H gh hx hy o => ?_) ha hb
  unfold fSub at o
  split at o
  · rw [hx.intInv, hy.intInv]; exact ⟨_, _, rfl, rfl, o.ri gh⟩
  · exact o.elim
theorem flat_rep {ds : List D} {xs : List V} (h : DqAll G xs ds) : ∀ k : Nat, DqAll G (List.replicate k xs).flatten (List.replicate k ds).flatten
  | 0 => .nil
  | k + 1 => by
    rw [List.replicate_succ, List.replicate_succ, List.flatten_cons, List.flatten_cons]
    exact h.append (flat_rep h k)
theorem ve_mul (ha : VE X T EX B a f) (hb : VE X T EX B b g) : VE X T EX B (.BinOp a .Mult b pos) (op2 fMul f g) := by
  refine ve_bin (op_mulB.or op_repR) (fun Q x y dx dy G H gh hx hy o => ?_) ha hb
  unfold fMul at o
  split at o
  · rw [hx.intInv, hy.intInv]
    split at o
    · rename_i hm; exact .inl ⟨_, _, rfl, rfl, mulOk_iff.mp hm, o.ri gh⟩
    · exact o.elim
  · rw [hy.intInv]
    split at o
    · rename_i hl
      obtain ⟨l, xs, rfl, s1, q1⟩ := hx.lstH gh
      exact .inr ⟨l, _, xs, rfl, rfl, s1, by omega, by omega, by rw [q1.length]; exact Nat.le_of_lt (gl_line hl.2.1), o.newL gh (flat_rep q1 _)⟩
    · exact o.elim
  · exact o.elim
theorem ve_fdiv (ha : VE X T EX B a f) (hb : VE X T EX B b g) : VE X T EX B (.BinOp a .FloorDiv b pos) (op2 fDiv f g) := by
  refine ve_bin op_fdiv (fun Q x y dx dy G H gh hx hy o => ?_) ha hb
  unfold fDiv at o
  split at o
  · rw [hx.intInv, hy.intInv]
    split at o
    · rename_i hm; exact ⟨_, _, rfl, rfl, hm, o.ri gh⟩
    · exact o.elim
  · exact o.elim
theorem ve_mod (ha : VE X T EX B a f) (hb : VE X T EX B b g) : VE X T EX B (.BinOp a .Mod b pos) (op2 fMod f g) := by
  refine ve_bin op_mod (fun Q x y dx dy G H gh hx hy o => ?_) ha hb
  unfold fMod at o
  split at o
  · rw [hx.intInv, hy.intInv]
    split at o
    · rename_i hm; exact ⟨_, _, rfl, rfl, hm, o.ri gh⟩
    · exact o.elim
  · exact o.elim
theorem ve_pow (ha : VE X T EX B a f) (hb : VE X T EX B b g) : VE X T EX B (.BinOp a .Pow b pos) (op2 fPow f g) := by
  refine ve_bin op_pow (fun Q x y dx dy G H gh hx hy o => ?_) ha hb
  unfold fPow at o
  split at o
  · rw [hx.intInv, hy.intInv]
    split at o
    · rename_i hm; exact ⟨_, _, rfl, rfl, hm, o.ri gh⟩
    · exact o.elim
  · exact o.elim
theorem ve_shl (ha : VE X T EX B a f) (hb : VE X T EX B b g) : VE X T EX B (.BinOp a .LShift b pos) (op2 fShl f g) := by
  refine ve_bin op_shl (fun Q x y dx dy G H gh hx hy o => ?_) ha hb
  unfold fShl at o
  split at o
  · rw [hx.intInv, hy.intInv]
    split at o
    · rename_i hm; exact ⟨_, _, rfl, rfl, hm, o.ri gh⟩
    · exact o.elim
  · exact o.elim
theorem ve_shr (ha : VE X T EX B a f) (hb : VE X T EX B b g) : VE X T EX B (.BinOp a .RShift b pos) (op2 fShr f g) := by
  refine ve_bin op_shr (fun Q x y dx dy G H gh hx hy o => ?_) ha hb
  unfold fShr at o
  split at o
  · rw [hx.intInv, hy.intInv]
    split at o
    · rename_i hm; exact ⟨_, _, rfl, rfl, hm, o.ri gh⟩
    · exact o.elim
  · exact o.elim
theorem ve_band (ha : VE X T EX B a f) (hb : VE X T EX B b g) : VE X T EX B (.BinOp a .BitAnd b pos) (op2 fAnd f g) := by
  refine ve_bin op_and (fun Q x y dx dy G H gh hx hy o => ?_) ha hb
  unfold fAnd at o
  split at o
  · rw [hx.intInv, hy.intInv]; exact ⟨_, _, rfl, rfl, o.ri gh⟩
  · exact o.elim
theorem ve_neg (ha : VE X T EX B a f) : VE X T EX B (.UnaryOp .USub a pos) (op1 fNeg f) := by
  refine pe_weak (pe_un un_neg ha) fun σ H Q q => use1 (r := fun x H Q => _) (fun x dx G H gh hx o => ?_) q
  unfold fNeg at o
  split at o
  · rw [hx.intInv]; exact ⟨_, rfl, o.ri gh⟩
  · exact o.elim

/-! ### comparisons -/
theorem eq_prim (Q : VK) (x y : V) (dx dy : D) (G H : Hp) (gh : Same G H) (hx : Dq G x dx) (hy : Dq G y dy) (o : Out T EX (fEq dx dy) G H Q) : rEqQ false x y H Q := by
  unfold fEq at o
  split at o
  · exact ⟨dx, dy, hx.mono gh, hy.mono gh, by assumption, by rw [Bool.false_xor]; exact o.rb gh⟩
  · exact o.elim
theorem ne_prim (Q : VK) (x y : V) (dx dy : D) (G H : Hp) (gh : Same G H) (hx : Dq G x dx) (hy : Dq G y dy) (o : Out T EX (fNe dx dy) G H Q) : rEqQ true x y H Q := by
  unfold fNe at o
  split at o
  · exact ⟨dx, dy, hx.mono gh, hy.mono gh, by assumption, by rw [Bool.true_xor]; exact o.rb gh⟩
  · exact o.elim
theorem lt_prim (Q : VK) (x y : V) (dx dy : D) (G H : Hp) (gh : Same G H) (hx : Dq G x dx) (hy : Dq G y dy) (o : Out T EX (fLt dx dy) G H Q) : rI0 (fun i j => .bl (decide (i < j))) x y H Q := by
  unfold fLt at o
  split at o
  · rw [hx.intInv, hy.intInv]; exact ⟨_, _, rfl, rfl, o.rb gh⟩
  · exact o.elim
theorem le_prim (Q : VK) (x y : V) (dx dy : D) (G H : Hp) (gh : Same G H) (hx : Dq G x dx) (hy : Dq G y dy) (o : Out T EX (fLe dx dy) G H Q) : rI0 (fun i j => .bl (decide (i ≤ j))) x y H Q := by
  unfold fLe at o
  split at o
  · rw [hx.intInv, hy.intInv]; exact ⟨_, _, rfl, rfl, o.rb gh⟩
  · exact o.elim
theorem gt_prim (Q : VK) (x y : V) (dx dy : D) (G H : Hp) (gh : Same G H) (hx : Dq G x dx) (hy : Dq G y dy) (o : Out T EX (fGt dx dy) G H Q) : rI0 (fun i j => .bl (decide (j < i))) x y H Q := by
  unfold fGt at o
  split at o
  · rw [hx.intInv, hy.intInv]; exact ⟨_, _, rfl, rfl, o.rb gh⟩
  · exact o.elim
theorem ge_prim (Q : VK) (x y : V) (dx dy : D) (G H : Hp) (gh : Same G H) (hx : Dq G x dx) (hy : Dq G y dy) (o : Out T EX (fGe dx dy) G H Q) : rI0 (fun i j => .bl (decide (j ≤ i))) x y H Q := by
  unfold fGe at o
  split at o
  · rw [hx.intInv, hy.intInv]; exact ⟨_, _, rfl, rfl, o.rb gh⟩
  · exact o.elim
/-- a comparison's rule: its operator and what it makes of data -/
structure Cmp (X : Cx) (T : Ct) (EX : XK) (op : CmpOp) (F : D → D → R) (r : R2) : Prop where
  ho : OpR X (compareOp op) r
  prim : ∀ Q x y dx dy G H, Same G H → Dq G x dx → Dq G y dy → Out T EX (F dx dy) G H Q → r x y H Q
theorem c_eq (C : Cv X T EX B) : Cmp X T EX .Eq fEq (rEqQ false) := ⟨op_eqQ C.un, eq_prim⟩
theorem c_ne (C : Cv X T EX B) : Cmp X T EX .NotEq fNe (rEqQ true) := ⟨op_neQ C.un, ne_prim⟩
theorem c_lt : Cmp X T EX .Lt fLt (rI0 (fun i j => .bl (decide (i < j)))) := ⟨op_lt, lt_prim⟩
theorem c_le : Cmp X T EX .LtE fLe (rI0 (fun i j => .bl (decide (i ≤ j)))) := ⟨op_le, le_prim⟩
theorem c_gt : Cmp X T EX .Gt fGt (rI0 (fun i j => .bl (decide (j < i)))) := ⟨op_gt, gt_prim⟩
theorem c_ge : Cmp X T EX .GtE fGe (rI0 (fun i j => .bl (decide (j ≤ i)))) := ⟨op_ge, ge_prim⟩
theorem ve_cm {op : CmpOp} {F : D → D → R} {r : R2} (k : Cmp X T EX op F r) (ha : VE X T EX B a f) (hb : VE X T EX B b g) (hm : behindInMarks op b = false := by first | exact nomark _ | rfl) : VE X T EX B (.Compare a [op] [b] pos) (op2 F f g) :=
  ve_cmp k.ho k.prim ha hb hm
/-! ### tests -/
@[simp] def R.t (r : R) (k : Bool → R) : R := match r with
  | .val (.sh (.bool b)) => k b
  | .err c => .err c
  | _ => .stuck
theorem t2v {f : FE} {σ : L2.St} {H : Hp} {Q : Bool → Hp → Prop} (q : rdT T EX B f σ H Q) : rdV T EX B f σ H (fun x H1 => ∃ k, x = .bl k ∧ Q k H1) := by
  obtain ⟨G, env, S, o⟩ := q
  refine ⟨G, env, S, ?_⟩
  unfold OutT at o
  split at o
  · rename_i b e
    rw [e]
    exact fun v G' H' s q => ⟨b, q.blInv, o G' H' s⟩
  · rename_i c e
    rw [e]; exact o
  · exact o.elim
theorem vt_val (h : VE X T EX B e f) (he : ∀ whole, isTrue e X.env whole = (do let v ← whole; standAt e.pos; holding [v] (truthy v)) := by intro _; rfl) : VT X T EX B e f := pt_weak (pt_val h he) fun σ H Q q => t2v q
theorem vt_cm {op : CmpOp} {F : D → D → R} {r : R2} (k : Cmp X T EX op F r) (ha : VE X T EX B a f) (hb : VE X T EX B b g) (hm : behindInMarks op b = false := by first | exact nomark _ | rfl) : VT X T EX B (.Compare a [op] [b] pos) (op2 F f g) :=
  pt_weak (pt_cmpR k.ho ha hb hm) fun σ H Q q => use2 (k.prim _) (t2v q)
/-- first a truth, then what is made of it: for a value -/
theorem seqTV {f : FE} {k : Bool → R} {env : VEnv} {σ : L2.St} {Q : VK} (S : Sim T B G env σ H) (h : Out T EX ((f env).t k) G H Q) :
    rdT T EX B f σ H (fun b H1 => ∃ G1, Sim T B G1 env σ H1 ∧ Out T EX (k b) G1 H1 Q) := by
  refine ⟨G, env, S, ?_⟩
  unfold R.t at h
  split at h
  · rename_i b e
    rw [e]
    exact fun G' H' s => ⟨G', S.step s, Out.step h s⟩
  · rename_i c e
    rw [e]; exact h
  · exact h.elim
theorem OutT.step {r : R} {Q : Bool → Hp → Prop} {G1 H1 : Hp} (h : OutT T EX r G H Q) (s : Step G H G1 H1) : OutT T EX r G1 H1 Q := by
  unfold OutT at h ⊢
  split at h
  · exact fun G' H' s' => h G' H' (s.trans s')
  · exact fun H' q => h H' (s.hh.trans q)
  · exact h.elim
theorem seqTT {f : FE} {k : Bool → R} {env : VEnv} {σ : L2.St} {Q : Bool → Hp → Prop} (S : Sim T B G env σ H) (h : OutT T EX ((f env).t k) G H Q) :
    rdT T EX B f σ H (fun b H1 => ∃ G1, Sim T B G1 env σ H1 ∧ OutT T EX (k b) G1 H1 Q) := by
  refine ⟨G, env, S, ?_⟩
  cases e : f env with
  | val v =>
    rw [e] at h
    cases v with
    | sh d =>
      cases d with
      | bool b => exact fun G' H' s => ⟨G', S.step s, OutT.step h s⟩
      | _ => exact h.elim
    | _ => exact h.elim
  | err c => rw [e] at h; exact h
  | stuck => rw [e] at h; exact h.elim
theorem rdT_mono {f : FE} {σ : L2.St} {Q Q' : Bool → Hp → Prop} (h : rdT T EX B f σ H Q) (q : ∀ b H', Q b H' → Q' b H') : rdT T EX B f σ H Q' := by
  obtain ⟨G, env, S, o⟩ := h
  refine ⟨G, env, S, ?_⟩
  unfold OutT at o ⊢
  split at o
  · exact fun G' H' s' => q _ _ (o G' H' s')
  · exact o
  · exact o.elim
@[simp] def vNot (f : FE) : FE := fun env => (f env).t fun b => rb (!b)
@[simp] def vAnd (f g : FE) : FE := fun env => (f env).t fun b => if b = true then g env else rb false
@[simp] def vOr (f g : FE) : FE := fun env => (f env).t fun b => if b = true then rb true else g env
@[simp] def vIf (c f g : FE) : FE := fun env => (c env).t fun b => if b = true then f env else g env
theorem vt_not (ha : VT X T EX B a f) : VT X T EX B (.UnaryOp .Not a pos) (vNot f) := pt_weak (pt_not ha) fun σ H Q q => by
  obtain ⟨G, env, S, o⟩ := q
  exact rdT_mono (seqTT S o) fun b H1 ⟨G1, S1, o1⟩ => o1 G1 H1 (Step.refl S1.gh)
theorem vw_and1 (ha : VT X T EX B a f) : VW X T EX B (.BoolOp .And [a] pos) f := L2.pw_and1 ha
theorem vw_or1 (ha : VT X T EX B a f) : VW X T EX B (.BoolOp .Or [a] pos) f := L2.pw_or1 ha
theorem vw_and {b : Expr} {rest : List Expr} (ha : VT X T EX B a f) (hb : VW X T EX B (.BoolOp .And (b :: rest) pos) g) : VW X T EX B (.BoolOp .And (a :: b :: rest) pos) (vAnd f g) := pw_weak (L2.pw_and ha hb) fun σ H Q q => by
  obtain ⟨G, env, S, o⟩ := q
  refine rdT_mono (seqTT S o) fun b H1 ⟨G1, S1, o1⟩ => ?_
  cases b with
  | true => exact ⟨G1, env, S1, o1⟩
  | false => exact o1 G1 H1 (Step.refl S1.gh)
theorem vw_or {b : Expr} {rest : List Expr} (ha : VT X T EX B a f) (hb : VW X T EX B (.BoolOp .Or (b :: rest) pos) g) : VW X T EX B (.BoolOp .Or (a :: b :: rest) pos) (vOr f g) := pw_weak (L2.pw_or ha hb) fun σ H Q q => by
  obtain ⟨G, env, S, o⟩ := q
  refine rdT_mono (seqTT S o) fun b H1 ⟨G1, S1, o1⟩ => ?_
  cases b with
  | true => exact o1 G1 H1 (Step.refl S1.gh)
  | false => exact ⟨G1, env, S1, o1⟩
theorem vt_w (h : VW X T EX B e f) : VT X T EX B e f := PW.pt h
theorem v2t {f : FE} {k : Bool → R} {σ : L2.St} {Q : VK} {env : VEnv} (S : Sim T B G env σ H) (o : Out T EX ((f env).t k) G H Q) : rdV T EX B f σ H (fun x H1 => ∃ c, x = .bl c ∧ ∃ G1, Sim T B G1 env σ H1 ∧ Out T EX (k c) G1 H1 Q) := by
  obtain h := t2v (seqTV S o)
  exact h
theorem ve_not (ha : VE X T EX B a f) : VE X T EX B (.UnaryOp .Not a pos) (vNot f) := pe_weak (pe_not ha) fun σ H Q q => by
  obtain ⟨G, env, S, o⟩ := q
  exact rdV_mono (v2t S o) fun x H1 ⟨c, e, G1, S1, o1⟩ => ⟨c, e, o1.rb S1.gh⟩
theorem ve_one {op} (h : VE X T EX B a f) : VE X T EX B (.BoolOp op [a] pos) f := pe_one h
theorem ve_and {b : Expr} {rest : List Expr} (ha : VE X T EX B a f) (hb : VE X T EX B (.BoolOp .And (b :: rest) pos) g) : VE X T EX B (.BoolOp .And (a :: b :: rest) pos) (vAnd f g) := pe_weak (pe_and ha hb) fun σ H Q q => by
  obtain ⟨G, env, S, o⟩ := q
  refine rdV_mono (v2t S o) fun x H1 ⟨c, e, G1, S1, o1⟩ => ⟨c, e, ?_⟩
  cases c with
  | true => exact ⟨G1, env, S1, o1⟩
  | false => exact o1.rb S1.gh
theorem ve_or {b : Expr} {rest : List Expr} (ha : VE X T EX B a f) (hb : VE X T EX B (.BoolOp .Or (b :: rest) pos) g) : VE X T EX B (.BoolOp .Or (a :: b :: rest) pos) (vOr f g) := pe_weak (pe_or ha hb) fun σ H Q q => by
  obtain ⟨G, env, S, o⟩ := q
  refine rdV_mono (v2t S o) fun x H1 ⟨c, e, G1, S1, o1⟩ => ⟨c, e, ?_⟩
  cases c with
  | true => exact o1.rb S1.gh
  | false => exact ⟨G1, env, S1, o1⟩
theorem ve_if (hc : VT X T EX B c h) (ha : VE X T EX B a f) (hb : VE X T EX B b g) : VE X T EX B (.IfExp c a b pos) (vIf h f g) := pe_weak (pe_ifExp hc ha hb) fun σ H Q q => by
  obtain ⟨G, env, S, o⟩ := q
  refine rdT_mono (seqTV S o) fun b H1 ⟨G1, S1, o1⟩ => ?_
  cases b with
  | true => exact ⟨G1, env, S1, o1⟩
  | false => exact ⟨G1, env, S1, o1⟩
/-- a < b < c -/
@[simp] def vChn (F F' : D → D → R) (f g h : FE) : FE := fun env => (f env).d fun x => (g env).d fun y => (F x y).t fun b => if b = true then (h env).d fun z => F' y z else rb false
end
end VL
namespace VL
open PySem L2
section
variable {X : Cx} {T : Ct} {EX : XK} {B : Hp × Hp} {e a b c o : Expr} {es : List Expr} {pos p p2 : Pos} {f g h : FE} {fs : List FE} {G H : Hp} {Q : VK}
theorem out_t {r : R} {k : Bool → R} (q : Out T EX (r.t k) G H Q) (gh : Same G H) : Out T EX r G H (fun z H3 => ∃ b, z = .bl b ∧ ∃ G3, Step G H G3 H3 ∧ Out T EX (k b) G3 H3 Q) := by
  unfold R.t at q
  split at q
  · rename_i b
    exact fun v G' H' s d => ⟨b, d.blInv, G', s, Out.step q s⟩
  · exact q
  · exact q.elim
theorem chn_use {F F' : D → D → R} {r r' : R2} {op op' : CmpOp} (k : Cmp X T EX op F r) (k' : Cmp X T EX op' F' r') {σ : L2.St} (q : rdV T EX B (vChn F F' f g h) σ H Q) : tChain r r' (rdV T EX B f) (rdV T EX B g) (rdV T EX B h) σ H Q := by
  obtain ⟨G, env, S, o⟩ := q
  refine rdV_mono (seqD S o) fun x H1 ⟨dx, G1, s1, q1, S1, o1⟩ => rdV_mono (seqD S1 o1) fun y H2 ⟨dy, G2, s2, q2, S2, o2⟩ => ?_
  refine k.prim _ x y dx dy G2 H2 S2.gh (q1.mono s2.gg) q2 ((out_t o2 S2.gh).mono fun z H3 ⟨b, e, G3, s3, o3⟩ => ⟨b, e, ?_⟩)
  cases b with
  | true =>
    exact rdV_mono (seqD (S2.step s3) o3) fun w H4 ⟨dw, G4, s4, q4, S4, o4⟩ => k'.prim _ y w dy dw G4 H4 S4.gh (q2.mono (s3.gg.trans s4.gg)) q4 o4
  | false => exact o3.rb s3.gh
theorem ve_chn {F F' : D → D → R} {r r' : R2} {op op' : CmpOp} (k : Cmp X T EX op F r) (k' : Cmp X T EX op' F' r') (ha : VE X T EX B a f) (hb : VE X T EX B b g) (hc : VE X T EX B c h) (hm : lastMarks [op, op'] [b, c] = false := by with_unfolding_all rfl) :
    VE X T EX B (.Compare a [op, op'] [b, c] pos) (vChn F F' f g h) := pe_weak (pe_chain k.ho k'.ho ha hb hc hm) fun σ H Q q => chn_use k k' q
theorem vt_chn {F F' : D → D → R} {r r' : R2} {op op' : CmpOp} (k : Cmp X T EX op F r) (k' : Cmp X T EX op' F' r') (ha : VE X T EX B a f) (hb : VE X T EX B b g) (hc : VE X T EX B c h) (hm : lastMarks [op, op'] [b, c] = false := by with_unfolding_all rfl) :
    VT X T EX B (.Compare a [op, op'] [b, c] pos) (vChn F F' f g h) := pt_weak (pt_chain k.ho k'.ho ha hb hc hm) fun σ H Q q => chn_use k k' (t2v q)

/-! ### items, slices -/
theorem DqAll.atI {ds : List D} {xs : List V} {i : Int} {d : D} (q : DqAll G xs ds) (e : atI ds i = some d) : ∃ v, L2.atI xs i = some v ∧ Dq G v d := by
  unfold L2.atI at e ⊢
  rw [q.length]
  cases z : ixN ds.length i with
  | none => rw [z] at e; cases e
  | some j =>
    rw [z] at e
    exact q.get e
theorem ve_ix (ha : VE X T EX B a f) (hb : VE X T EX B b g) (hs : PlainIx b := by intro _ _; rfl) : VE X T EX B (.Subscript a b pos) (op2 fIx f g) := by
  refine pe_weak (pe_ix (ix_list.or ix_tup) ha hb hs) fun σ H Q q => use2 (r := fun x y H Q => rIxL X.K x y H Q ∨ rIxT X.K x y H Q) (fun x y dx dy G H gh hx hy o => ?_) q
  unfold fIx at o
  split at o
  · rw [hy.intInv]
    split at o
    · rename_i d e
      obtain ⟨l, xs, rfl, s1, q1⟩ := hx.tupH gh
      obtain ⟨v, e1, d1⟩ := q1.atI e
      exact .inr ⟨l, xs, _, v, rfl, rfl, sqT_K s1, e1, o.ok gh d1⟩
    · exact o.elim
  · rw [hy.intInv]
    split at o
    · rename_i d e
      obtain ⟨l, xs, rfl, s1, q1⟩ := hx.lstH gh
      obtain ⟨v, e1, d1⟩ := q1.atI e
      exact .inl ⟨l, xs, _, v, rfl, rfl, sqL_K s1, e1, o.ok gh d1⟩
    · exact o.elim
  · exact o.elim
def cutD (xs : List D) (lo hi : Option Int) : List D := (xs.drop (HT.sIx xs.length 0 lo)).take (HT.sIx xs.length xs.length hi - HT.sIx xs.length 0 lo)
theorem DqAll.cut {ds : List D} {xs : List V} (q : DqAll G xs ds) (lo hi : Option Int) : DqAll G (cutV xs lo hi) (cutD ds lo hi) := by
  unfold cutV cutD
  rw [q.length]
  exact (q.drop _).take _
/-- xs[lo:hi] of a list -/
@[simp] def fSl (lo hi : Option Int) : D → R
  | .list xs => .val (.ow (cutD xs lo hi))
  | .tuple xs => if (cutD xs lo hi).length < xs.length then ok (.tuple (cutD xs lo hi)) else .stuck
  | _ => .stuck
@[simp] def R.i (r : R) (k : Int → R) : R := match r with
  | .val (.sh (.int i)) => k i
  | .err c => .err c
  | _ => .stuck
theorem seqI {k : Int → R} {env : VEnv} {σ : L2.St} (S : Sim T B G env σ H) (q : Out T EX ((f env).i k) G H Q) : rdV T EX B f σ H (fun v H1 => ∃ i G1, v = .int i ∧ Step G H G1 H1 ∧ Sim T B G1 env σ H1 ∧ Out T EX (k i) G1 H1 Q) := by
  refine ⟨G, env, S, ?_⟩
  unfold R.i at q
  split at q
  · rename_i i e
    rw [e]
    exact fun v G' H' s d => ⟨i, G', d.intInv, s, S.step s, Out.step q s⟩
  · rename_i c e
    rw [e]; exact q
  · exact q.elim
@[simp] def vSl2 (f g h : FE) : FE := fun env => (f env).d fun x => (g env).i fun lo => (h env).i fun hi => fSl (some lo) (some hi) x
@[simp] def vSlL (f g : FE) : FE := fun env => (f env).d fun x => (g env).i fun lo => fSl (some lo) none x
@[simp] def vSlH (f g : FE) : FE := fun env => (f env).d fun x => (g env).i fun hi => fSl none (some hi) x
theorem sl_prim {K : PySem.W.Frag} {x : V} {dx : D} {lo hi : Option Int} (gh : Same G H) (hx : Dq G x dx) (o : Out T EX (fSl lo hi dx) G H Q) : rSlL K x lo hi H Q ∨ rSlT K x lo hi H Q := by
  unfold fSl at o
  split at o
  · obtain ⟨l, xs, rfl, s1, q1⟩ := hx.lstH gh
    exact .inl ⟨l, xs, rfl, sqL_K s1, o.newL gh (q1.cut lo hi)⟩
  · split at o
    · rename_i n
      obtain ⟨l, xs, rfl, s1, q1⟩ := hx.tupH gh
      refine .inr ⟨l, xs, rfl, sqT_K s1, fun z => ?_, fun p hp => o (.ref p) _ _ (Step.new gh hp _) (Dq.tup (.inl (.inl upd_same)) ((q1.cut lo hi).mono (same_upd (same_none gh hp) _)))⟩
      have e := q1.length
      unfold cutD at n
      rw [← e, z.1, z.2, List.drop_zero, Nat.sub_zero, List.length_take] at n
      omega
    · exact o.elim
  · exact o.elim
theorem ve_sl2 (ha : VE X T EX B a f) (hb : VE X T EX B b g) (hc : VE X T EX B c h) : VE X T EX B (.Subscript a (.Slice (some b) (some c) none p2) pos) (vSl2 f g h) :=
  pe_weak (pe_slice (sl_list.or sl_tup) ha (po_some hb) (po_some hc)) fun σ H Q q => by
    obtain ⟨G, env, S, o⟩ := q
    exact rdV_mono (seqD S o) fun x H1 ⟨dx, G1, s1, q1, S1, o1⟩ => rdV_mono (seqI S1 o1) fun y H2 ⟨i, G2, e2, s2, S2, o2⟩ => ⟨i, e2,
      rdV_mono (seqI S2 o2) fun z H3 ⟨j, G3, e3, s3, S3, o3⟩ => ⟨j, e3, sl_prim S3.gh ((q1.mono s2.gg).mono s3.gg) o3⟩⟩
theorem ve_slL (ha : VE X T EX B a f) (hb : VE X T EX B b g) : VE X T EX B (.Subscript a (.Slice (some b) none none p2) pos) (vSlL f g) :=
  pe_weak (pe_slice (sl_list.or sl_tup) ha (po_some hb) po_none) fun σ H Q q => by
    obtain ⟨G, env, S, o⟩ := q
    exact rdV_mono (seqD S o) fun x H1 ⟨dx, G1, s1, q1, S1, o1⟩ => rdV_mono (seqI S1 o1) fun y H2 ⟨i, G2, e2, s2, S2, o2⟩ => ⟨i, e2, sl_prim S2.gh (q1.mono s2.gg) o2⟩
theorem ve_slH (ha : VE X T EX B a f) (hb : VE X T EX B b g) : VE X T EX B (.Subscript a (.Slice none (some b) none p2) pos) (vSlH f g) :=
  pe_weak (pe_slice (sl_list.or sl_tup) ha po_none (po_some hb)) fun σ H Q q => by
    obtain ⟨G, env, S, o⟩ := q
    exact rdV_mono (seqD S o) fun x H1 ⟨dx, G1, s1, q1, S1, o1⟩ => rdV_mono (seqI S1 o1) fun y H2 ⟨i, G2, e2, s2, S2, o2⟩ => ⟨i, e2, sl_prim S2.gh (q1.mono s2.gg) o2⟩
@[simp] def fRev : D → R
  | .list xs => .val (.ow xs.reverse)
  | _ => .stuck
theorem ve_rev {k : Nat} {p1 p3 : Pos} (ha : VE X T EX B a f) : VE X T EX B (.Subscript a (.Slice none none (some (.UnaryOp .USub (.Constant (.int 1) k p1) p2)) p3) pos) (op1 fRev f) :=
  pe_weak (pe_revL ha) fun σ H Q q => use1 (r := fun x H1 Q => ∃ a xs, x = .ref a ∧ SqL X.K H1 a xs ∧ ∀ p, H1 p = none → Q (.ref p) (upd H1 p (.lst xs.reverse))) (fun x dx G H gh hx o => by
    unfold fRev at o
    split at o
    · obtain ⟨l, xs, rfl, s1, q1⟩ := hx.lstH gh
      exact ⟨l, xs, rfl, sqL_K s1, o.newL gh q1.reverse⟩
    · exact o.elim) q

/-! ### built-in functions -/
/-- f(a): one argument that is data -/
@[simp] def cal1 (F : D → R) (f : FE) : FE := fun env => (evA [f] env).b fun as => match as with
  | [.sh d] => F d
  | _ => .stuck
@[simp] def cal2 (F : D → D → R) (f g : FE) : FE := fun env => (evA [f, g] env).b fun as => match as with
  | [.sh d, .sh e] => F d e
  | _ => .stuck
theorem ve_cal1 {x : Str} {id : String} {r : List V → Hp → VK → Prop} {F : D → R} (hc : CallR X (.builtin id) r) (prim : ∀ Q v d G H, Same G H → Dq G v d → Out T EX (F d) G H Q → r [v] H Q) (hg : Gl X x) (hm : X.mg x = none) (hv : bootBuiltins x = some (.builtin id)) (ha : VE X T EX B a f)
    (hs : starEach [a] X.env = [(false, eval a X.env)] := by rfl) (hn : x ≠ "__name__" := by decide) (hdb : (x == ("__debug__" : Str)) = false := by decide) (hpl : ∀ q : Pos, ((backTo q (starEach [] X.env)).any fun z => z.1) = false := by intro _; rfl) :
    VE X T EX B (.Call (.Name x p) [a] [] pos) (cal1 F f) := by
  refine pe_weak (pe_callB hc hg hm hv (va_cons ha va_nil hs) hn hdb hs (hpl pos)) fun σ H Q q => args_use (fun vs as G H gh rp o => ?_) q
  split at o
  · cases rp with
    | cons h1 t =>
      cases t
      exact prim Q _ _ G H gh h1 o
  · exact o.elim
theorem ve_cal1T {x : Str} {id : String} {r : List V → Hp → VK → Prop} {F : D → R} (hc : CallR X (.type id) r) (prim : ∀ Q v d G H, Same G H → Dq G v d → Out T EX (F d) G H Q → r [v] H Q) (hg : Gl X x) (hm : X.mg x = none) (hv : bootBuiltins x = some (.type id)) (ha : VE X T EX B a f)
    (hs : starEach [a] X.env = [(false, eval a X.env)] := by rfl) (hn : x ≠ "__name__" := by decide) (hdb : (x == ("__debug__" : Str)) = false := by decide) (hpl : ∀ q : Pos, ((backTo q (starEach [] X.env)).any fun z => z.1) = false := by intro _; rfl) :
    VE X T EX B (.Call (.Name x p) [a] [] pos) (cal1 F f) := by
  refine pe_weak (pe_callTy hc hg hm hv (va_cons ha va_nil hs) hn hdb hs (hpl pos)) fun σ H Q q => args_use (fun vs as G H gh rp o => ?_) q
  split at o
  · cases rp with
    | cons h1 t =>
      cases t
      exact prim Q _ _ G H gh h1 o
  · exact o.elim
end
end VL
namespace VL
open PySem L2
/-! ### lists of ints, of truths -/
@[simp] def intsOf : List D → Option (List Int)
  | [] => some []
  | .int i :: r => (intsOf r).map (i :: ·)
  | _ :: _ => none
@[simp] def blsOf : List D → Option (List Bool)
  | [] => some []
  | .bool i :: r => (blsOf r).map (i :: ·)
  | _ :: _ => none
theorem intsOf_map : ∀ ns : List Int, intsOf (ns.map PyData.int) = some ns
  | [] => rfl
  | n :: r => by simp only [List.map_cons, intsOf, intsOf_map r, Option.map_some]
theorem blsOf_map : ∀ ns : List Bool, blsOf (ns.map PyData.bool) = some ns
  | [] => rfl
  | n :: r => by simp only [List.map_cons, blsOf, blsOf_map r, Option.map_some]
section
variable {G H : Hp}
theorem intsOf_ok : ∀ {ds : List D} {ns : List Int} {xs : List V}, intsOf ds = some ns → DqAll G xs ds → xs = ns.map V.int
  | [], _, _, e, q => by cases e; exact q.inv0
  | d :: ds, ns, xs, e, q => by
    obtain ⟨v, vs, rfl, q1, q2⟩ := q.inv
    cases d with
    | int i =>
      unfold intsOf at e
      obtain ⟨l, e1, rfl⟩ := Option.map_eq_some_iff.mp e
      rw [q1.intInv, intsOf_ok e1 q2, List.map_cons]
    | _ => cases e
theorem blsOf_ok : ∀ {ds : List D} {ns : List Bool} {xs : List V}, blsOf ds = some ns → DqAll G xs ds → xs = ns.map V.bl
  | [], _, _, e, q => by cases e; exact q.inv0
  | d :: ds, ns, xs, e, q => by
    obtain ⟨v, vs, rfl, q1, q2⟩ := q.inv
    cases d with
    | bool i =>
      unfold blsOf at e
      obtain ⟨l, e1, rfl⟩ := Option.map_eq_some_iff.mp e
      rw [q1.blInv, blsOf_ok e1 q2, List.map_cons]
    | _ => cases e
theorem dq_ints : ∀ ns : List Int, DqAll G (ns.map V.int) (ns.map PyData.int)
  | [] => .nil
  | _ :: r => .cons .int (dq_ints r)
end
/-- sorted -/
def srt (ns : List Int) : List Int := ns.mergeSort
theorem srt_perm (ns : List Int) : (srt ns).Perm ns := List.mergeSort_perm ns _
theorem srt_le (ns : List Int) : (srt ns).Pairwise (· ≤ ·) := by
  have h := List.pairwise_mergeSort (le := fun (a b : Int) => decide (a ≤ b)) (fun a b c h1 h2 => by simp only [decide_eq_true_eq] at *; omega) (fun a b => by simp only [Bool.or_eq_true, decide_eq_true_eq]; omega) ns
  exact h.imp fun h => by simpa using h
theorem srt_one : ∀ {l m : List Int}, l.Perm m → l.Pairwise (· ≤ ·) → m.Pairwise (· ≤ ·) → l = m := fun h h1 h2 => h.eq_of_pairwise (fun a b _ _ h3 h4 => Int.le_antisymm h3 h4) h1 h2
theorem srt_of {l ns : List Int} (h : l.Perm ns) (h1 : l.Pairwise (· ≤ ·)) : l = srt ns := srt_one (h.trans (srt_perm ns).symm) h1 (srt_le ns)
theorem srt_congr {l m : List Int} (h : l.Perm m) : srt l = srt m := srt_of ((srt_perm l).trans h) (srt_le l)
/-- the least, the greatest -/
def lmin : List Int → Option Int
  | [] => none
  | x :: r => some (r.foldl min x)
def lmax : List Int → Option Int
  | [] => none
  | x :: r => some (r.foldl max x)
theorem foldmin_spec : ∀ (r : List Int) (x : Int), (r.foldl min x = x ∨ r.foldl min x ∈ r) ∧ r.foldl min x ≤ x ∧ ∀ y ∈ r, r.foldl min x ≤ y
  | [], x => ⟨.inl rfl, Int.le_refl _, by simp⟩
  | z :: r, x => by
    obtain ⟨h1, h2, h3⟩ := foldmin_spec r (min x z)
    rw [List.foldl_cons]
    refine ⟨?_, by omega, fun y hy => ?_⟩
    · rcases h1 with h1 | h1
      · rw [h1]
        rcases Int.le_total x z with q | q
        · rw [Int.min_eq_left q]; exact .inl rfl
        · rw [Int.min_eq_right q]; exact .inr List.mem_cons_self
      · exact .inr (List.mem_cons_of_mem _ h1)
    · rcases List.mem_cons.mp hy with rfl | hy
      · omega
      · exact h3 y hy
theorem foldmax_spec : ∀ (r : List Int) (x : Int), (r.foldl max x = x ∨ r.foldl max x ∈ r) ∧ x ≤ r.foldl max x ∧ ∀ y ∈ r, y ≤ r.foldl max x
  | [], x => ⟨.inl rfl, Int.le_refl _, by simp⟩
  | z :: r, x => by
    obtain ⟨h1, h2, h3⟩ := foldmax_spec r (max x z)
    rw [List.foldl_cons]
    refine ⟨?_, by omega, fun y hy => ?_⟩
    · rcases h1 with h1 | h1
      · rw [h1]
        rcases Int.le_total x z with q | q
        · rw [Int.max_eq_right q]; exact .inr List.mem_cons_self
        · rw [Int.max_eq_left q]; exact .inl rfl
      · exact .inr (List.mem_cons_of_mem _ h1)
    · rcases List.mem_cons.mp hy with rfl | hy
      · omega
      · exact h3 y hy
theorem lmin_spec {ns : List Int} {m : Int} (h : lmin ns = some m) : m ∈ ns ∧ ∀ y ∈ ns, m ≤ y := by
  cases ns with
  | nil => cases h
  | cons x r =>
    cases h
    obtain ⟨h1, h2, h3⟩ := foldmin_spec r x
    exact ⟨h1.elim (fun e => by rw [e]; exact List.mem_cons_self) (fun e => List.mem_cons_of_mem _ e), fun y hy => (List.mem_cons.mp hy).elim (fun e => by rw [e]; exact h2) (h3 y)⟩
theorem lmax_spec {ns : List Int} {m : Int} (h : lmax ns = some m) : m ∈ ns ∧ ∀ y ∈ ns, y ≤ m := by
  cases ns with
  | nil => cases h
  | cons x r =>
    cases h
    obtain ⟨h1, h2, h3⟩ := foldmax_spec r x
    exact ⟨h1.elim (fun e => by rw [e]; exact List.mem_cons_self) (fun e => List.mem_cons_of_mem _ e), fun y hy => (List.mem_cons.mp hy).elim (fun e => by rw [e]; exact h2) (h3 y)⟩
/-- of a list of ints -/
@[simp] def onInts (k : List Int → R) : D → R
  | .list ds => match intsOf ds with
    | some ns => k ns
    | none => .stuck
  | _ => .stuck
@[simp] def onBls (k : List Bool → R) : D → R
  | .list ds => match blsOf ds with
    | some ns => k ns
    | none => .stuck
  | _ => .stuck
@[simp] def fLen : D → R
  | .list ds => ri ds.length
  | .tuple ds => ri ds.length
  | _ => .stuck
@[simp] def fSum : D → R := onInts fun ns => ri ns.sum
@[simp] def fMin1 : D → R := onInts fun ns => match lmin ns with
  | some m => ri m
  | none => .stuck
@[simp] def fMax1 : D → R := onInts fun ns => match lmax ns with
  | some m => ri m
  | none => .stuck
@[simp] def fSorted : D → R := onInts fun ns => .val (.ow ((srt ns).map .int))
@[simp] def fAny : D → R := onBls fun bs => rb (bs.any id)
@[simp] def fAll : D → R := onBls fun bs => rb (bs.all id)
@[simp] def fAbs : D → R
  | .int i => ri (if i < 0 then -i else i)
  | _ => .stuck
@[simp] def fInt : D → R
  | .int i => ri i
  | .bool k => ri (if k then 1 else 0)
  | _ => .stuck
@[simp] def fList : D → R
  | .list ds => .val (.ow ds)
  | .tuple ds => .val (.ow ds)
  | _ => .stuck
@[simp] def fMax2 : D → D → R
  | .int i, .int j => ri (if j > i then j else i)
  | _, _ => .stuck
@[simp] def fMin2 : D → D → R
  | .int i, .int j => ri (if j < i then j else i)
  | _, _ => .stuck
section
variable {X : Cx} {T : Ct} {EX : XK} {B : Hp × Hp} {e a b c o : Expr} {es : List Expr} {pos p p2 : Pos} {f g h : FE} {fs : List FE} {G H : Hp} {Q : VK}
theorem ints_out {k : List Int → R} {d : D} {v : V} (gh : Same G H) (hv : Dq G v d) (o : Out T EX (onInts k d) G H Q) : ∃ l ns, v = .ref l ∧ SqL [] H l (ns.map V.int) ∧ Out T EX (k ns) G H Q := by
  unfold onInts at o
  split at o
  · split at o
    · rename_i ns e
      obtain ⟨l, xs, rfl, s1, q1⟩ := hv.lstH gh
      rw [intsOf_ok e q1] at s1
      exact ⟨l, ns, rfl, s1, o⟩
    · exact o.elim
  · exact o.elim
theorem bls_out {k : List Bool → R} {d : D} {v : V} (gh : Same G H) (hv : Dq G v d) (o : Out T EX (onBls k d) G H Q) : ∃ l ns, v = .ref l ∧ SqL [] H l (ns.map V.bl) ∧ Out T EX (k ns) G H Q := by
  unfold onBls at o
  split at o
  · split at o
    · rename_i ns e
      obtain ⟨l, xs, rfl, s1, q1⟩ := hv.lstH gh
      rw [blsOf_ok e q1] at s1
      exact ⟨l, ns, rfl, s1, o⟩
    · exact o.elim
  · exact o.elim
variable (X) in
/-- that a name is global in the def, and free in the module -/
structure Bt (x : Str) : Prop where
  gl : Gl X x
  mg : X.mg x = none
theorem ve_len (t : Bt X "len") (ha : VE X T EX B a f) (hs : starEach [a] X.env = [(false, eval a X.env)] := by rfl) : VE X T EX B (.Call (.Name "len" p) [a] [] pos) (cal1 fLen f) :=
  ve_cal1 call_len_seq (fun Q v d G H gh hv o => by
    unfold fLen at o
    split at o
    · obtain ⟨l, xs, rfl, s1, q1⟩ := hv.lstH gh
      exact ⟨l, xs, rfl, .inl (sqL_K s1), by rw [q1.length]; exact o.ri gh⟩
    · obtain ⟨l, xs, rfl, s1, q1⟩ := hv.tupH gh
      exact ⟨l, xs, rfl, .inr (sqT_K s1), by rw [q1.length]; exact o.ri gh⟩
    · exact o.elim) t.gl t.mg PySem.boot_len ha hs
theorem ve_sum (C : Cv X T EX B) (t : Bt X "sum") (ha : VE X T EX B a f) (hs : starEach [a] X.env = [(false, eval a X.env)] := by rfl) : VE X T EX B (.Call (.Name "sum" p) [a] [] pos) (cal1 fSum f) :=
  ve_cal1 (cr_sum C.calm) (fun Q v d G H gh hv o => by
    obtain ⟨l, ns, rfl, s, o⟩ := ints_out gh hv o
    exact ⟨l, ns, rfl, sqL_K s, o.ri gh⟩) t.gl t.mg (by decide +kernel) ha hs
theorem ve_min1 (C : Cv X T EX B) (t : Bt X "min") (ha : VE X T EX B a f) (hs : starEach [a] X.env = [(false, eval a X.env)] := by rfl) : VE X T EX B (.Call (.Name "min" p) [a] [] pos) (cal1 fMin1 f) :=
  ve_cal1 (cr_min C.calm) (fun Q v d G H gh hv o => by
    obtain ⟨l, ns, rfl, s, o⟩ := ints_out gh hv o
    split at o
    · rename_i m e
      obtain ⟨h1, h2⟩ := lmin_spec e
      refine ⟨l, ns, rfl, sqL_K s, List.length_pos_of_mem h1, fun m' h3 h4 => ?_⟩
      have : m' = m := Int.le_antisymm (h4 m h1) (h2 m' h3)
      rw [this]; exact o.ri gh
    · exact o.elim) t.gl t.mg (by decide +kernel) ha hs
theorem ve_max1 (C : Cv X T EX B) (t : Bt X "max") (ha : VE X T EX B a f) (hs : starEach [a] X.env = [(false, eval a X.env)] := by rfl) : VE X T EX B (.Call (.Name "max" p) [a] [] pos) (cal1 fMax1 f) :=
  ve_cal1 (cr_max C.calm) (fun Q v d G H gh hv o => by
    obtain ⟨l, ns, rfl, s, o⟩ := ints_out gh hv o
    split at o
    · rename_i m e
      obtain ⟨h1, h2⟩ := lmax_spec e
      refine ⟨l, ns, rfl, sqL_K s, List.length_pos_of_mem h1, fun m' h3 h4 => ?_⟩
      have : m' = m := Int.le_antisymm (h2 m' h3) (h4 m h1)
      rw [this]; exact o.ri gh
    · exact o.elim) t.gl t.mg (by decide +kernel) ha hs
theorem ve_sorted (t : Bt X "sorted") (ha : VE X T EX B a f) (hs : starEach [a] X.env = [(false, eval a X.env)] := by rfl) : VE X T EX B (.Call (.Name "sorted" p) [a] [] pos) (cal1 fSorted f) :=
  ve_cal1 cr_sortedI (fun Q v d G H gh hv o => by
    obtain ⟨l, ns, rfl, s, o⟩ := ints_out gh hv o
    refine ⟨l, ns, rfl, sqL_K s, fun ns' p h1 h2 hp => ?_⟩
    rw [srt_of h1 h2]
    exact o.newL gh (dq_ints _) p hp) t.gl t.mg (by decide +kernel) ha hs
theorem ve_any (C : Cv X T EX B) (t : Bt X "any") (ha : VE X T EX B a f) (hs : starEach [a] X.env = [(false, eval a X.env)] := by rfl) : VE X T EX B (.Call (.Name "any" p) [a] [] pos) (cal1 fAny f) :=
  ve_cal1 (cr_any C.calm) (fun Q v d G H gh hv o => by
    obtain ⟨l, ns, rfl, s, o⟩ := bls_out gh hv o
    exact ⟨l, ns, rfl, sqL_K s, o.rb gh⟩) t.gl t.mg (by decide +kernel) ha hs
theorem ve_all (C : Cv X T EX B) (t : Bt X "all") (ha : VE X T EX B a f) (hs : starEach [a] X.env = [(false, eval a X.env)] := by rfl) : VE X T EX B (.Call (.Name "all" p) [a] [] pos) (cal1 fAll f) :=
  ve_cal1 (cr_all C.calm) (fun Q v d G H gh hv o => by
    obtain ⟨l, ns, rfl, s, o⟩ := bls_out gh hv o
    exact ⟨l, ns, rfl, sqL_K s, o.rb gh⟩) t.gl t.mg (by decide +kernel) ha hs
theorem ve_abs (t : Bt X "abs") (ha : VE X T EX B a f) (hs : starEach [a] X.env = [(false, eval a X.env)] := by rfl) : VE X T EX B (.Call (.Name "abs" p) [a] [] pos) (cal1 fAbs f) :=
  ve_cal1 call_abs (fun Q v d G H gh hv o => by
    unfold fAbs at o
    split at o
    · rw [hv.intInv]; exact ⟨_, rfl, o.ri gh⟩
    · exact o.elim) t.gl t.mg (by decide +kernel) ha hs
theorem ve_int1 (t : Bt X "int") (ha : VE X T EX B a f) (hs : starEach [a] X.env = [(false, eval a X.env)] := by rfl) : VE X T EX B (.Call (.Name "int" p) [a] [] pos) (cal1 fInt f) :=
  ve_cal1T call_int1 (fun Q v d G H gh hv o => by
    unfold fInt at o
    split at o
    · rw [hv.intInv]; exact .inl ⟨_, rfl, o.ri gh⟩
    · rw [hv.blInv]; exact .inr ⟨_, rfl, o.ri gh⟩
    · exact o.elim) t.gl t.mg (by decide +kernel) ha hs
theorem ve_list (t : Bt X "list") (ha : VE X T EX B a f) (hs : starEach [a] X.env = [(false, eval a X.env)] := by rfl) : VE X T EX B (.Call (.Name "list" p) [a] [] pos) (cal1 fList f) :=
  ve_cal1T call_list_of (fun Q v d G H gh hv o => by
    unfold fList at o
    split at o
    · obtain ⟨l, xs, rfl, s1, q1⟩ := hv.lstH gh
      exact ⟨l, xs, rfl, .inl (sqL_K s1), o.newL gh q1⟩
    · obtain ⟨l, xs, rfl, s1, q1⟩ := hv.tupH gh
      exact ⟨l, xs, rfl, .inr (sqT_K s1), o.newL gh q1⟩
    · exact o.elim) t.gl t.mg (by decide +kernel) ha hs
theorem ve_cal2 {x : Str} {id : String} {r : List V → Hp → VK → Prop} {F : D → D → R} (hc : CallR X (.builtin id) r) (prim : ∀ Q v w d e G H, Same G H → Dq G v d → Dq G w e → Out T EX (F d e) G H Q → r [v, w] H Q) (t : Bt X x) (hv : bootBuiltins x = some (.builtin id)) (ha : VE X T EX B a f) (hb : VE X T EX B b g)
    (hs : starEach [a, b] X.env = (false, eval a X.env) :: starEach [b] X.env := by rfl) (hs2 : starEach [b] X.env = [(false, eval b X.env)] := by rfl) (hn : x ≠ "__name__" := by decide) (hdb : (x == ("__debug__" : Str)) = false := by decide) (hpl : ∀ q : Pos, ((backTo q (starEach [b] X.env)).any fun z => z.1) = false := by intro _; rfl) :
    VE X T EX B (.Call (.Name x p) [a, b] [] pos) (cal2 F f g) := by
  refine pe_weak (pe_callB hc t.gl t.mg hv (va_cons ha (va_cons hb va_nil hs2) hs) hn hdb hs (hpl pos)) fun σ H Q q => args_use (fun vs as G H gh rp o => ?_) q
  split at o
  · cases rp with
    | cons h1 t =>
      cases t with
      | cons h2 t =>
        cases t
        exact prim Q _ _ _ _ G H gh h1 h2 o
  · exact o.elim
theorem ve_max2 (C : Cv X T EX B) (t : Bt X "max") (ha : VE X T EX B a f) (hb : VE X T EX B b g) (hs : starEach [a, b] X.env = (false, eval a X.env) :: starEach [b] X.env := by rfl) (hs2 : starEach [b] X.env = [(false, eval b X.env)] := by rfl) (hpl : ∀ q : Pos, ((backTo q (starEach [b] X.env)).any fun z => z.1) = false := by intro _; rfl) :
    VE X T EX B (.Call (.Name "max" p) [a, b] [] pos) (cal2 fMax2 f g) :=
  ve_cal2 (call_max2 C.calm) (fun Q v w d e G H gh hv hw o => by
    unfold fMax2 at o
    split at o
    · rw [hv.intInv, hw.intInv]; exact ⟨_, _, rfl, o.ri gh⟩
    · exact o.elim) t (by decide +kernel) ha hb hs hs2 (by decide) (by decide) hpl
theorem ve_min2 (C : Cv X T EX B) (t : Bt X "min") (ha : VE X T EX B a f) (hb : VE X T EX B b g) (hs : starEach [a, b] X.env = (false, eval a X.env) :: starEach [b] X.env := by rfl) (hs2 : starEach [b] X.env = [(false, eval b X.env)] := by rfl) (hpl : ∀ q : Pos, ((backTo q (starEach [b] X.env)).any fun z => z.1) = false := by intro _; rfl) :
    VE X T EX B (.Call (.Name "min" p) [a, b] [] pos) (cal2 fMin2 f g) :=
  ve_cal2 (call_min2 C.calm) (fun Q v w d e G H gh hv hw o => by
    unfold fMin2 at o
    split at o
    · rw [hv.intInv, hw.intInv]; exact ⟨_, _, rfl, o.ri gh⟩
    · exact o.elim) t (by decide +kernel) ha hb hs hs2 (by decide) (by decide) hpl
end
end VL
namespace VL
open PySem L2
/-! ### isinstance with a built-in class -/
def tyD : D → String
  | .none => "NoneType"
  | .bool _ => "bool"
  | .int _ => "int"
  | .str _ => "str"
  | .list _ => "list"
  | .tuple _ => "tuple"
  | .dict _ => "dict"
@[simp] def isInt : D → Bool
  | .int _ => true
  | .bool _ => true
  | _ => false
@[simp] def isBool : D → Bool
  | .bool _ => true
  | _ => false
@[simp] def isList : D → Bool
  | .list _ => true
  | _ => false
@[simp] def isTup : D → Bool
  | .tuple _ => true
  | _ => false
/-- a class and its test -/
structure Ty (n : String) (t : D → Bool) : Prop where
  ok : ∀ d, kitB (tyD d) n = some (t d)
theorem ty_int : Ty "int" isInt := ⟨fun d => by cases d <;> (simp only [tyD, isInt]; decide +kernel)⟩
theorem ty_bool : Ty "bool" isBool := ⟨fun d => by cases d <;> (simp only [tyD, isBool]; decide +kernel)⟩
theorem ty_list : Ty "list" isList := ⟨fun d => by cases d <;> (simp only [tyD, isList]; decide +kernel)⟩
theorem ty_tuple : Ty "tuple" isTup := ⟨fun d => by cases d <;> (simp only [tyD, isTup]; decide +kernel)⟩
@[simp] def flatD : D → Bool
  | .none => true
  | .bool _ => true
  | .int _ => true
  | .str _ => true
  | _ => false
section
variable {X : Cx} {T : Ct} {EX : XK} {B : Hp × Hp} {e a b c o : Expr} {es : List Expr} {pos p p2 : Pos} {f g h : FE} {fs : List FE} {G H : Hp} {Q : VK}
theorem Dq.tyX {K : PySem.W.Frag} {v : V} {d : D} (q : Dq H v d) : TyX K H v (.type (tyD d)) := by
  cases q.dp with
  | non => exact .base .non
  | bl b => exact .base (.bl b)
  | int i => exact .base (.int i)
  | str x => exact .base (.str x)
  | lst s _ =>
    rcases s with (s | ⟨o, s⟩) | ⟨o, its, n, hk, _⟩
    · exact .base (.lst s)
    · exact .base (.frz s)
    · cases hk
  | tup s _ =>
    rcases s with (s | ⟨o, s⟩) | ⟨o, its, n, hk, _⟩
    · exact .base (.tup s)
    · exact .fTuple s
    · cases hk
theorem ve_isi {x : Str} {n : String} {t : D → Bool} {p1 : Pos} (ty : Ty n t) (bi : Bt X "isinstance") (bt : Bt X x) (hv : bootBuiltins x = some (.type n)) (ha : VE X T EX B a f)
    (hs : starEach [a, .Name x p1] X.env = (false, eval a X.env) :: starEach [.Name x p1] X.env := by rfl) (hn : x ≠ "__name__" := by decide) (hd : (x == ("__debug__" : Str)) = false := by decide) : VE X T EX B (.Call (.Name "isinstance" p) [a, .Name x p1] [] pos) (op1 (fun d => rb (t d)) f) := by
  refine pe_weak (pe_callB call_isi bi.gl bi.mg PyProof.Rows.boot_isinstance (pa_cons ha (pa_cons (pe_bltn (v := .ty n) bt.gl bt.mg hv rfl hn hd) pa_nil rfl) hs) (by decide) (by decide) hs rfl) fun σ H Q q => ?_
  refine use1 (r := fun x H Q => rIsi X.K [x, .ty n] H Q) (fun x dx G H gh hx o => ?_) q
  exact ⟨x, .ty n, .type (tyD dx), .type n, t dx, rfl, .ty n, (hx.mono gh).tyX, kit_ty (ty.ok dx), o.rb gh⟩

/-! ### in, not in -/
theorem Dq.flat {v : V} {d : D} (q : Dq G v d) : flatV v = flatD d := by
  cases q.dp <;> rfl
theorem flat_eq {v w : V} {d e : D} (q : Dq G v d) (r : Dq G w e) (hd : flatD d = true) (he : flatD e = true) : eqV v w = PyData.eqv d e := by
  cases q.dp with
  | lst _ _ => cases hd
  | tup _ _ => cases hd
  | non => cases r.dp <;> first | (cases he; done) | simp only [eqV, PyData.eqv]
  | bl x => cases r.dp <;> first | (cases he; done) | simp only [eqV, PyData.eqv]
  | int x => cases r.dp <;> first | (cases he; done) | simp only [eqV, PyData.eqv]
  | str x => cases r.dp <;> first | (cases he; done) | simp only [eqV, PyData.eqv]
theorem flat_all : ∀ {ds : List D} {xs : List V}, DqAll G xs ds → ds.all flatD = true → xs.all flatV = true
  | [], _, q, _ => by rw [q.inv0]; rfl
  | d :: ds, _, q, h => by
    obtain ⟨v, vs, rfl, q1, q2⟩ := q.inv
    simp only [List.all_cons, Bool.and_eq_true] at h ⊢
    exact ⟨q1.flat.trans h.1, flat_all q2 h.2⟩
theorem flat_any {w : V} {e : D} (r : Dq G w e) (he : flatD e = true) : ∀ {ds : List D} {xs : List V}, DqAll G xs ds → ds.all flatD = true → inV w xs = ds.any (fun z => PyData.eqv z e)
  | [], _, q, _ => by rw [q.inv0]; rfl
  | d :: ds, _, q, h => by
    obtain ⟨v, vs, rfl, q1, q2⟩ := q.inv
    simp only [List.all_cons, Bool.and_eq_true] at h
    have ih := flat_any r he q2 h.2
    unfold inV at ih ⊢
    rw [List.any_cons, List.any_cons, flat_eq q1 r h.1 he, ih]
/-- x in xs: flat things, or data of any depth in a list -/
@[simp] def fInB (x : D) (ds : List D) (tup : Bool) (k : Bool → R) : R :=
  if flatD x = true ∧ ds.all flatD = true then k (ds.any fun z => PyData.eqv z x)
  else if tup = false ∧ SeqAt.shaped x = true ∧ SeqAt.shaped (.list ds) = true then k (ds.any fun z => PyData.eqv z x) else .stuck
@[simp] def fIn : D → D → R
  | x, .list ds => fInB x ds false fun b => rb b
  | x, .tuple ds => fInB x ds true fun b => rb b
  | _, _ => .stuck
@[simp] def fNin : D → D → R
  | x, .list ds => fInB x ds false fun b => rb (!b)
  | x, .tuple ds => fInB x ds true fun b => rb (!b)
  | _, _ => .stuck
theorem c_in (C : Cv X T EX B) : Cmp X T EX .In fIn (fun x y H Q => rIn X.K false x y H Q ∨ rInD X.K x y H Q) := by
  refine ⟨op_in_seq.or (op_inD (by have := C.un; omega)), fun Q x y dx dy G H gh hx hy o => ?_⟩
  unfold fIn fInB at o
  split at o
  · obtain ⟨l, xs, rfl, s1, q1⟩ := hy.lstH gh
    split at o
    · rename_i z
      exact .inl ⟨l, xs, rfl, .inl (sqL_K s1), hx.flat.trans z.1, flat_all q1 z.2, by rw [flat_any hx z.1 q1 z.2]; exact o.rb gh⟩
    · split at o
      · rename_i z
        exact .inr ⟨dx, _, (hx.mono gh).K, (hy.mono gh).K, z.2.1, z.2.2, o.rb gh⟩
      · exact o.elim
  · obtain ⟨l, xs, rfl, s1, q1⟩ := hy.tupH gh
    split at o
    · rename_i z
      exact .inl ⟨l, xs, rfl, .inr (sqT_K s1), hx.flat.trans z.1, flat_all q1 z.2, by rw [flat_any hx z.1 q1 z.2]; exact o.rb gh⟩
    · split at o
      · rename_i z; exact absurd z.1 (by decide)
      · exact o.elim
  · exact o.elim
theorem c_nin (C : Cv X T EX B) : Cmp X T EX .NotIn fNin (fun x y H Q => rIn X.K true x y H Q ∨ rNotInD X.K x y H Q) := by
  refine ⟨op_notIn_seq.or (op_notInD (by have := C.un; omega)), fun Q x y dx dy G H gh hx hy o => ?_⟩
  unfold fNin fInB at o
  split at o
  · obtain ⟨l, xs, rfl, s1, q1⟩ := hy.lstH gh
    split at o
    · rename_i z
      exact .inl ⟨l, xs, rfl, .inl (sqL_K s1), hx.flat.trans z.1, flat_all q1 z.2, by rw [flat_any hx z.1 q1 z.2]; exact o.rb gh⟩
    · split at o
      · rename_i z
        exact .inr ⟨dx, _, (hx.mono gh).K, (hy.mono gh).K, z.2.1, z.2.2, o.rb gh⟩
      · exact o.elim
  · obtain ⟨l, xs, rfl, s1, q1⟩ := hy.tupH gh
    split at o
    · rename_i z
      exact .inl ⟨l, xs, rfl, .inr (sqT_K s1), hx.flat.trans z.1, flat_all q1 z.2, by rw [flat_any hx z.1 q1 z.2]; exact o.rb gh⟩
    · split at o
      · rename_i z; exact absurd z.1 (by decide)
      · exact o.elim
  · exact o.elim

/-! ### xs.index(y), ints -/
def idxOf : List Int → Int → Option Nat
  | [], _ => none
  | x :: r, y => if x = y then some 0 else (idxOf r y).map (· + 1)
theorem idxOf_spec : ∀ {ns : List Int} {y : Int} {j : Nat}, idxOf ns y = some j → ns[j]? = some y ∧ ∀ m, m < j → ∀ z, ns[m]? = some z → z ≠ y
  | [], _, _, h => by cases h
  | x :: r, y, j, h => by
    unfold idxOf at h
    split at h
    · cases h
      rename_i e
      exact ⟨by rw [e]; rfl, fun m hm => absurd hm (Nat.not_lt_zero _)⟩
    · rename_i e
      obtain ⟨i, hi, rfl⟩ := Option.map_eq_some_iff.mp h
      obtain ⟨h1, h2⟩ := idxOf_spec hi
      refine ⟨by simpa using h1, fun m hm z hz => ?_⟩
      cases m with
      | zero => simp at hz; rw [← hz]; exact e
      | succ m => exact h2 m (by omega) z (by simpa using hz)
@[simp] def fIdx : D → D → R
  | x, .int y => onInts (fun ns => match idxOf ns y with
    | some j => ri (j : Nat)
    | none => .stuck) x
  | _, _ => .stuck
@[simp] def vIdx (f g : FE) : FE := fun env => (f env).d fun x => match x with
  | .list ds => (evA [g] env).b fun as => match as with
    | [.sh y] => fIdx (.list ds) y
    | _ => .stuck
  | _ => .stuck
theorem args_seq {k : List SV → R} {env : VEnv} {σ : L2.St} {P : List V → Hp → Prop} (S : Sim T B G env σ H) (o : Out T EX ((evA fs env).b k) G H Q) (prim : ∀ vs as G1 H1, Step G H G1 H1 → VRpAll T G1 vs as → Sim T B G1 env σ H1 → Out T EX (k as) G1 H1 Q → P vs H1) : rdA T EX B fs σ H P := by
  refine ⟨G, env, S, ?_⟩
  revert o
  cases evA fs env with
  | val as => exact fun o vs G' H' s q => prim vs as G' H' s q (S.step s) (Out.step o s)
  | err c => exact fun o => o
  | stuck => exact fun o => o
theorem ve_index {apos : Pos} (ha : VE X T EX B a f) (hb : VE X T EX B b g) (hbase : attributeBase a "index" X.env (eval a X.env) = eval a X.env := by rfl)
    (hline : (apos.endLine == pos.line) = true := by rfl) (hs : starEach [b] X.env = [(false, eval b X.env)] := by rfl) (hplain : (backTo pos (starEach [] X.env)).any (·.1) = false := by rfl)
    (hfew : ((backTo pos (starEach [b] X.env)).all (fun x => !x.1) && (backToKw pos (keywordEach [] X.env)).all (fun x => x.1.isSome)
      && decide ([b].length + ([] : List Keyword).length + (if ([] : List Keyword).isEmpty then 0 else 1) < 30)) = true := by rfl) : VE X T EX B (.Call (.Attribute a "index" apos) [b] [] pos) (vIdx f g) := by
  refine pe_weak (pe_bm PySem.F.plainAttrs_list PySem.F.slot_list_index PySem.F.type_list_index mt_index ha (va_cons hb va_nil hs) hbase hfew hline hs hplain) fun σ H Q q => ?_
  obtain ⟨G, env, S, o⟩ := q
  refine rdV_mono (seqD S o) fun x H1 ⟨dx, G1, s1, hx, S1, o1⟩ => ?_
  split at o1
  · obtain ⟨l, xs, rfl, sq, q1⟩ := hx.lstH S1.gh
    refine ⟨.inl ⟨rfl, xs, sqL_K sq⟩, args_seq S1 o1 fun vs as G2 H2 s2 rp S2 o2 => ?_⟩
    split at o2
    · cases rp with
      | cons h1 t =>
        cases t
        rename_i y
        unfold fIdx at o2
        split at o2
        · rename_i y
          obtain ⟨l2, ns, e2, sq2, o2⟩ := ints_out S2.gh (hx.mono s2.gg) o2
          cases e2
          split at o2
          · rename_i j ej
            obtain ⟨k1, k2⟩ := idxOf_spec ej
            have hy := Dq.intInv h1
            refine ⟨l, ns.map V.int, .int y, j, .int y, rfl, by rw [hy], sqL_K sq2, rfl, by simp [flatV], by rw [List.getElem?_map, k1]; rfl, by simp [eqV], fun m z' hm hz => ?_, o2.ri S2.gh⟩
            rw [List.getElem?_map] at hz
            obtain ⟨w, hw, rfl⟩ := Option.map_eq_some_iff.mp hz
            have := k2 m hm w hw
            simp [eqV, this]
          · exact o2.elim
        · exact o2.elim
    · exact o2.elim
  · exact o1.elim

/-! ### a def of the program -/
/-- a def's promise: its arguments stand in G; what it makes of them -/
def spV (T : Ct) (n : Nat) (m : List SV → R) : Sp := fun vs H Q E => ∃ G as, Same G H ∧ NoMem G ∧ MeO T H ∧ VRpAll T G vs as ∧ as.length = n ∧ Out T E (m as) G H Q
theorem vrp_len {T : Ct} {G : Hp} : ∀ {vs : List V} {as : List SV}, VRpAll T G vs as → vs.length = as.length
  | _, _, .nil => rfl
  | _, _, .cons _ t => by rw [List.length_cons, List.length_cons, vrp_len t]
@[simp] def calF (n : Nat) (m : List SV → R) (fs : List FE) : FE := fun env => (evA fs env).b fun as => if as.length = n then m as else .stuck
theorem ve_call {x : Str} {n k : Nat} {m : List SV → R} {fa : Addr} {fd : FuncData} {ps : List Str} (F : FnGd X.prog X.w X.K X.mg X.base (L2.CX X.prog X.w) k fa fd ps (spV T n m)) (hr : Room k X.A) (hg : Gl X x) (hm : X.mg x = some (.ref fa)) (hk : PySem.W.keepIn X.K (.ref fa) = true) (hb : Binds X.K fd ps [])
    (C : Cv X T EX B) (ha : VA X T EX B (e :: es) fs) (hd : (x == ("__debug__" : Str)) = false := by decide) (hs : starEach (e :: es) X.env = (false, eval e X.env) :: starEach es X.env := by rfl) (hpl : ((backTo pos (starEach es X.env)).any fun z => z.1) = false := by rfl) :
    VE X T EX B (.Call (.Name x p) (e :: es) [] pos) (calF n m fs) := by
  refine pe_weak (pe_callG (E := fun _ => EX) F C.gd hr hg hm hk hb (fun σ pn H s e s' => C.pass pn σ H s e s') ha hd hs hpl) fun σ H Q q => ?_
  obtain ⟨G, env, S, o⟩ := q
  refine args_seq S o fun vs as G1 H1 s1 rp S1 o1 => ?_
  split at o1
  · exact ⟨G1, as, S1.gh, S1.st.nm S1.nb.1, S1.mo, rp, by assumption, o1⟩
  · exact o1.elim
end
end VL
namespace VL
open PySem L2
/-! ### what is walked -/
@[simp] def itD (F : D → RI) (f : FE) : FI := fun env => match f env with
  | .val (.sh d) => F d
  | .val (.ow ds) => F (.list ds)
  | .val (.ob _ _) => .stuck
  | .val (.rg r) => (match r.toD with
    | some d => F d
    | none => .stuck)
  | .err c => .err c
  | .stuck => .stuck
@[simp] def itA (F : List SV → RI) (fs : List FE) : FI := fun env => match evA fs env with
  | .val as => F as
  | .err c => .err c
  | .stuck => .stuck
@[simp] def iL : D → RI
  | .list ds => .val ds
  | _ => .stuck
@[simp] def iT : D → RI
  | .tuple ds => .val ds
  | _ => .stuck
def rngD (lo c : Int) (n : Nat) : List D := (List.range n).map fun (i : Nat) => .int (lo + (i : Int) * c)
@[simp] def iR1 : List SV → RI
  | [.sh (.int j)] => if -1000000 ≤ j ∧ j ≤ 1000000 then .val (rngD 0 1 j.toNat) else .stuck
  | _ => .stuck
@[simp] def iR2 : List SV → RI
  | [.sh (.int i), .sh (.int j)] => if -1000000 ≤ i ∧ i ≤ 1000000 ∧ -1000000 ≤ j ∧ j ≤ 1000000 then .val (rngD i 1 (j - i).toNat) else .stuck
  | _ => .stuck
def iR3 : List SV → RI
  | [.sh (.int i), .sh (.int j), .sh (.int c)] => if 0 < c ∧ c ≤ 1000 ∧ Builtin.Range.small i j c = true then .val (rngD i c (if i < j then (j - i - 1) / c + 1 else 0).toNat) else .stuck
  | _ => .stuck
def enumD : Nat → List D → List D
  | _, [] => []
  | n, d :: r => .tuple [.int (n : Nat), d] :: enumD (n + 1) r
@[simp] def iE : List SV → RI
  | [.sh (.list ds)] => .val (enumD 0 ds)
  | _ => .stuck
def zipD (xs ys : List D) : List D := List.zipWith (fun a b => .tuple [a, b]) xs ys
@[simp] def iZ : List SV → RI
  | [.sh (.list ds), .sh (.list es)] => .val (zipD ds es)
  | _ => .stuck
theorem enumD_length : ∀ (ds : List D) (n : Nat), (enumD n ds).length = ds.length
  | [], _ => rfl
  | _ :: r, n => by simp only [enumD, List.length_cons, enumD_length r]
theorem enumD_get : ∀ {ds : List D} {n i : Nat} {d : D}, ds[i]? = some d → (enumD n ds)[i]? = some (.tuple [.int ((n + i : Nat) : Int), d])
  | [], _, _, _, h => by simp at h
  | x :: r, n, 0, d, h => by simp at h; subst h; rfl
  | x :: r, n, i + 1, d, h => by
    have := enumD_get (ds := r) (n := n + 1) (i := i) (d := d) (by simpa using h)
    simp only [enumD, List.getElem?_cons_succ, this]
    rw [show n + 1 + i = n + (i + 1) by omega]
section
variable {X : Cx} {T : Ct} {EX : XK} {B : Hp × Hp} {e a b c o tg : Expr} {es : List Expr} {pos p p2 : Pos} {f g h : FE} {fs : List FE} {G H G1 H1 : Hp} {Q : VK}
theorem OutI.step {r : RI} {R : It → Hp → Prop} (q : OutI T EX r G H R) (s : Step G H G1 H1) : OutI T EX r G1 H1 R := by
  cases r with
  | val ds => exact fun J G' H' s' w => q J G' H' (s.trans s') w
  | err c => exact fun H' z => q H' (s.hh.trans z)
  | stuck => exact q
theorem seqItD {F : D → RI} {env : VEnv} {σ : L2.St} {R : It → Hp → Prop} (S' : Sim T B G env σ H) (q : OutI T EX (itD F f env) G H R) : rdV T EX B f σ H (fun v H1 => ∃ d G1, Step G H G1 H1 ∧ Dq G1 v d ∧ Sim T B G1 env σ H1 ∧ OutI T EX (F d) G1 H1 R) := by
  refine ⟨G, env, S', ?_⟩
  unfold itD at q
  revert q
  cases f env with
  | val v =>
    cases v with
    | sh d => exact fun h => Out.fz fun x G' H' s q => ⟨d, G', s, q, S'.step s, OutI.step h s⟩
    | ow ds => exact fun h => Out.fz fun x G' H' s q => ⟨.list ds, G', s, q, S'.step s, OutI.step h s⟩
    | ob c fs => exact fun h => h.elim
    | rg r =>
      intro h v S G' H' s nd nw q
      dsimp only at h
      split at h
      · rename_i d ed
        have s2 := s.frzS nw (RRp.at r S v q)
        exact ⟨d, addS G' H' S, s2, RRp.frz (addS_same fun a m => (nw a m).1) r S v d q (fun a m => addS_in m) ed, S'.step s2, OutI.step h s2⟩
      · exact h.elim
  | err c => exact fun h => h
  | stuck => exact fun h => h
theorem seqItA {F : List SV → RI} {env : VEnv} {σ : L2.St} {R : It → Hp → Prop} (S : Sim T B G env σ H) (q : OutI T EX (itA F fs env) G H R) : rdA T EX B fs σ H (fun vs H1 => ∃ as G1, Step G H G1 H1 ∧ VRpAll T G1 vs as ∧ Sim T B G1 env σ H1 ∧ OutI T EX (F as) G1 H1 R) := by
  refine ⟨G, env, S, ?_⟩
  unfold itA at q
  revert q
  cases evA fs env with
  | val as => exact fun h vs G' H' s q => ⟨as, G', s, q, S.step s, OutI.step h s⟩
  | err c => exact fun h => h
  | stuck => exact fun h => h
theorem rdA_mono {σ : L2.St} {Q Q' : List V → Hp → Prop} (h : rdA T EX B fs σ H Q) (q : ∀ v H', Q v H' → Q' v H') : rdA T EX B fs σ H Q' := by
  obtain ⟨G, env, S, o⟩ := h
  refine ⟨G, env, S, ?_⟩
  revert o
  cases evA fs env with
  | val as => exact fun o vs G' H' s z => q _ _ (o vs G' H' s z)
  | err c => exact fun o => o
  | stuck => exact fun o => o
theorem walksL {K : PySem.W.Frag} {l : Addr} {xs : List V} {ds : List D} (s : SqL [] G l xs) (q : DqAll G xs ds) : WalksD (Itl K l) G ds := by
  unfold WalksD
  rw [← q.length]
  refine walk_list.mono (fun H e => sqL_K (e.seq s)) fun i H x H' hi gh y Gc h1 h2 => ?_
  obtain ⟨rfl, e⟩ := y
  obtain ⟨d, hd⟩ : ∃ d, ds[i]? = some d := ⟨ds[i]'(by rw [← q.length]; exact hi), List.getElem?_eq_getElem _⟩
  obtain ⟨v, hv, dv⟩ := q.get hd
  rw [e] at hv; cases hv
  exact ⟨d, Gc, hd, Step.refl h2, dv.mono h1⟩
theorem walksT {K : PySem.W.Frag} {l : Addr} {xs : List V} {ds : List D} (s : SqT [] G l xs) (q : DqAll G xs ds) : WalksD (Itt K l) G ds := by
  unfold WalksD
  rw [← q.length]
  refine walk_tup.mono (fun H e => sqT_K (same_seqT e s)) fun i H x H' hi gh y Gc h1 h2 => ?_
  obtain ⟨rfl, e⟩ := y
  obtain ⟨d, hd⟩ : ∃ d, ds[i]? = some d := ⟨ds[i]'(by rw [← q.length]; exact hi), List.getElem?_eq_getElem _⟩
  obtain ⟨v, hv, dv⟩ := q.get hd
  rw [e] at hv; cases hv
  exact ⟨d, Gc, hd, Step.refl h2, dv.mono h1⟩
theorem rngD_length (lo c : Int) (n : Nat) : (rngD lo c n).length = n := by simp [rngD]
theorem rngD_get {lo c : Int} {n i : Nat} (h : i < n) : (rngD lo c n)[i]? = some (.int (lo + (i : Int) * c)) := by simp [rngD, h]
theorem walksR {lo : Int} {n : Nat} : WalksD (Itr lo n) G (rngD lo 1 n) := by
  unfold WalksD
  rw [rngD_length]
  refine walk_range.mono (fun _ _ => trivial) fun i H x H' hi gh y Gc h1 h2 => ?_
  obtain ⟨rfl, e⟩ := y
  exact ⟨_, Gc, rngD_get hi, Step.refl h2, by rw [e, Int.mul_one]; exact .int⟩
theorem walksC {lo c : Int} {n : Nat} : WalksD (Itc lo c n) G (rngD lo c n) := by
  unfold WalksD
  rw [rngD_length]
  refine walk_rangeC.mono (fun _ _ => trivial) fun i H x H' hi gh y Gc h1 h2 => ?_
  obtain ⟨rfl, e⟩ := y
  exact ⟨_, Gc, rngD_get hi, Step.refl h2, by rw [e]; exact .int⟩
theorem walksE {K : PySem.W.Frag} {l : Addr} {xs : List V} {ds : List D} (s : SqL [] G l xs) (q : DqAll G xs ds) : WalksD (Ite K l) G (enumD 0 ds) := by
  unfold WalksD
  rw [enumD_length, ← q.length]
  refine walk_enum.mono (fun H e => sqL_K (e.seq s)) fun i H x H' hi gh y Gc h1 h2 => ?_
  obtain ⟨t, u, w, rfl, hn, rfl, e1, e2⟩ := y
  cases e1
  have e2 : xs[i]? = some w := e2
  obtain ⟨d, hd⟩ : ∃ d, ds[i]? = some d := ⟨ds[i]'(by rw [← q.length]; exact hi), List.getElem?_eq_getElem _⟩
  obtain ⟨v, hv, dv⟩ := q.get hd
  rw [e2] at hv; cases hv
  refine ⟨_, upd Gc t (.tup [.int (i : Nat), w]), enumD_get hd, Step.new h2 hn _, Dq.tup (SqT.of upd_same) ?_⟩
  have sg := same_upd (same_none h2 hn) (.tup [.int ((i : Nat) : Int), w])
  rw [Nat.zero_add]
  exact .cons .int (.cons ((dv.mono h1).mono sg) .nil)
theorem zipD_get {xs ys : List D} {i : Nat} {x y : D} (h1 : xs[i]? = some x) (h2 : ys[i]? = some y) : (zipD xs ys)[i]? = some (.tuple [x, y]) := by
  unfold zipD
  rw [List.getElem?_zipWith, h1, h2]
theorem walksZ {K : PySem.W.Frag} {l l2 : Addr} {xs ys : List V} {ds es : List D} (s : SqL [] G l xs) (q : DqAll G xs ds) (s2 : SqL [] G l2 ys) (q2 : DqAll G ys es) : WalksD (Itz K l l2) G (zipD ds es) := by
  unfold WalksD
  have hn : (zipD ds es).length = min xs.length ys.length := by rw [q.length, q2.length]; simp [zipD]
  rw [hn]
  refine (walk_zip rfl).mono (fun H e => ⟨sqL_K (e.seq s), sqL_K (e.seq s2)⟩) fun i H x H' hi gh y Gc h1 h2 => ?_
  obtain ⟨t, u, w, rfl, hn, rfl, e1, e2⟩ := y
  have e1 : xs[i]? = some u := e1
  have e2 : ys[i]? = some w := e2
  have i1 : i < ds.length := by rw [← q.length]; omega
  have i2 : i < es.length := by rw [← q2.length]; omega
  obtain ⟨d, hd⟩ : ∃ d, ds[i]? = some d := ⟨ds[i], List.getElem?_eq_getElem _⟩
  obtain ⟨d2, hd2⟩ : ∃ d, es[i]? = some d := ⟨es[i], List.getElem?_eq_getElem _⟩
  obtain ⟨v, hv, dv⟩ := q.get hd
  obtain ⟨v2, hv2, dv2⟩ := q2.get hd2
  rw [e1] at hv; cases hv
  rw [e2] at hv2; cases hv2
  have sg := same_upd (same_none h2 hn) (.tup [u, w])
  exact ⟨_, upd Gc t (.tup [u, w]), zipD_get hd hd2, Step.new h2 hn _, Dq.tup (SqT.of upd_same) (.cons ((dv.mono h1).mono sg) (.cons ((dv2.mono h1).mono sg) .nil))⟩
theorem vi_list (ha : VE X T EX B a f) : VI X T EX B tg a (itD iL f) := pi_weak (pi_list ha) fun σ H R q => by
  obtain ⟨G, env, S, o⟩ := q
  refine rdV_mono (seqItD S o) fun v H1 ⟨d, G1, s, dq, S1, o1⟩ => ?_
  unfold iL at o1
  split at o1
  · obtain ⟨l, xs, rfl, sq, q1⟩ := dq.lstInv
    exact ⟨l, rfl, ⟨xs, sqL_K (S1.gh.seq sq)⟩, o1 _ G1 H1 (Step.refl S1.gh) (walksL sq q1)⟩
  · exact o1.elim
theorem vi_tup (ha : VE X T EX B a f) : VI X T EX B tg a (itD iT f) := pi_weak (pi_tup ha) fun σ H R q => by
  obtain ⟨G, env, S, o⟩ := q
  refine rdV_mono (seqItD S o) fun v H1 ⟨d, G1, s, dq, S1, o1⟩ => ?_
  unfold iT at o1
  split at o1
  · obtain ⟨l, xs, rfl, sq, q1⟩ := dq.tupInv
    exact ⟨l, rfl, ⟨xs, sqT_K (same_seqT S1.gh sq)⟩, o1 _ G1 H1 (Step.refl S1.gh) (walksT sq q1)⟩
  · exact o1.elim
theorem vi_range1 (t : Bt X "range") (ha : VA X T EX B [a] fs) (hs : starEach [a] X.env = [(false, eval a X.env)] := by rfl) : VI X T EX B tg (.Call (.Name "range" p) [a] [] pos) (itA iR1 fs) := pi_weak (pi_range1 t.gl t.mg ha hs) fun σ H R q => by
  obtain ⟨G, env, S, o⟩ := q
  refine rdA_mono (seqItA S o) fun vs H1 ⟨as, G1, s, rp, S1, o1⟩ => ?_
  unfold iR1 at o1
  split at o1
  · rename_i j
    split at o1
    · rename_i hj
      cases rp with
      | cons h1 t =>
        cases t
        exact ⟨j, by rw [Dq.intInv h1], by omega, by omega, o1 _ G1 H1 (Step.refl S1.gh) walksR⟩
    · exact o1.elim
  · exact o1.elim
theorem vi_range2 (t : Bt X "range") (ha : VA X T EX B [a, b] fs) (hs : starEach [a, b] X.env = [(false, eval a X.env), (false, eval b X.env)] := by rfl) (hs2 : starEach [b] X.env = [(false, eval b X.env)] := by rfl) : VI X T EX B tg (.Call (.Name "range" p) [a, b] [] pos) (itA iR2 fs) := pi_weak (pi_range2 t.gl t.mg ha hs hs2) fun σ H R q => by
  obtain ⟨G, env, S, o⟩ := q
  refine rdA_mono (seqItA S o) fun vs H1 ⟨as, G1, s, rp, S1, o1⟩ => ?_
  unfold iR2 at o1
  split at o1
  · rename_i i j
    split at o1
    · rename_i hj
      cases rp with
      | cons h1 t =>
        cases t with
        | cons h2 t =>
          cases t
          exact ⟨i, j, by rw [Dq.intInv h1, Dq.intInv h2], ⟨by omega, by omega, by omega, by omega⟩, o1 _ G1 H1 (Step.refl S1.gh) walksR⟩
    · exact o1.elim
  · exact o1.elim
theorem vi_range3 (t : Bt X "range") (ha : VA X T EX B [a, b, c] fs) (hs : starEach [a, b, c] X.env = (false, eval a X.env) :: starEach [b, c] X.env := by rfl) (hs2 : ((backTo pos (starEach [b, c] X.env)).any fun z => z.1) = false := by rfl) : VI X T EX B tg (.Call (.Name "range" p) [a, b, c] [] pos) (itA iR3 fs) := pi_weak (pi_range3 t.gl t.mg ha hs hs2) fun σ H R q => by
  obtain ⟨G, env, S, o⟩ := q
  refine rdA_mono (seqItA S o) fun vs H1 ⟨as, G1, s, rp, S1, o1⟩ => ?_
  unfold iR3 at o1
  split at o1
  · rename_i i j c
    split at o1
    · rename_i hj
      cases rp with
      | cons h1 t =>
        cases t with
        | cons h2 t =>
          cases t with
          | cons h3 t =>
            cases t
            refine ⟨i, j, c, _, by rw [Dq.intInv h1, Dq.intInv h2, Dq.intInv h3], ⟨by omega, by omega, hj.2.2, ?_⟩, o1 _ G1 H1 (Step.refl S1.gh) walksC⟩
            unfold Builtin.Range.rangeSize
            rw [if_pos hj.1]
            by_cases z : i < j
            · rw [if_pos z]
              have : 0 ≤ (j - i - 1) / c := Int.ediv_nonneg (by omega) (by omega)
              omega
            · rw [if_neg z]; rfl
    · exact o1.elim
  · exact o1.elim
theorem vi_enum {elts : List Expr} {kk : Nat} {tpos : Pos} (t : Bt X "enumerate") (ha : VA X T EX B [a] fs) (hs : starEach [a] X.env = [(false, eval a X.env)] := by rfl) : VI X T EX B (.Tuple elts kk tpos) (.Call (.Name "enumerate" p) [a] [] pos) (itA iE fs) := pi_weak (pi_enum t.gl t.mg ha hs) fun σ H R q => by
  obtain ⟨G, env, S, o⟩ := q
  refine rdA_mono (seqItA S o) fun vs H1 ⟨as, G1, s, rp, S1, o1⟩ => ?_
  unfold iE at o1
  split at o1
  · cases rp with
    | cons h1 t =>
      cases t
      obtain ⟨l, xs, rfl, sq, q1⟩ := Dq.lstInv h1
      exact ⟨l, xs, rfl, sqL_K (S1.gh.seq sq), o1 _ G1 H1 (Step.refl S1.gh) (walksE sq q1)⟩
  · exact o1.elim
theorem vi_zip {elts : List Expr} {kk : Nat} {tpos : Pos} (t : Bt X "zip") (ha : VA X T EX B [a, b] fs) (hs : starEach [a, b] X.env = (false, eval a X.env) :: starEach [b] X.env := by rfl) (hs2 : ((backTo pos (starEach [b] X.env)).any fun z => z.1) = false := by rfl) : VI X T EX B (.Tuple elts kk tpos) (.Call (.Name "zip" p) [a, b] [] pos) (itA iZ fs) := pi_weak (pi_zip t.gl t.mg ha hs hs2) fun σ H R q => by
  obtain ⟨G, env, S, o⟩ := q
  refine rdA_mono (seqItA S o) fun vs H1 ⟨as, G1, s, rp, S1, o1⟩ => ?_
  unfold iZ at o1
  split at o1
  · cases rp with
    | cons h1 t =>
      cases t with
      | cons h2 t =>
        cases t
        obtain ⟨l, xs, rfl, sq, q1⟩ := Dq.lstInv h1
        obtain ⟨l2, ys, rfl, sq2, q2⟩ := Dq.lstInv h2
        exact ⟨l, l2, xs, ys, rfl, sqL_K (S1.gh.seq sq), sqL_K (S1.gh.seq sq2), o1 _ G1 H1 (Step.refl S1.gh) (walksZ sq q1 sq2 q2)⟩
  · exact o1.elim

/-! ### targets -/
def SetIn (is : List Nat) (σ σ' : L2.St) : Prop := σ'.length = σ.length ∧ ∀ j, j ∉ is → σ'[j]? = σ[j]?
theorem SetIn.one {σ : L2.St} {i : Nat} {v : Option V} : SetIn [i] σ (σ.set i v) := ⟨by rw [List.length_set], fun j h => List.getElem?_set_ne (fun e => h (by rw [e]; exact List.mem_cons_self))⟩
theorem SetIn.trans {is js : List Nat} {σ σ1 σ2 : L2.St} (a : SetIn is σ σ1) (b : SetIn js σ1 σ2) : SetIn (is ++ js) σ σ2 := ⟨b.1.trans a.1, fun j h => (b.2 j fun z => h (List.mem_append_right _ z)).trans (a.2 j fun z => h (List.mem_append_left _ z))⟩
abbrev Tg := D → VEnv → Option VEnv
@[simp] def tgN (i : Nat) : Tg := fun d env => some (env.set i (some (.sh d)))
@[simp] def tg2 (i j : Nat) : Tg := fun d env => match d with
  | .tuple [x, y] => some ((env.set i (some (.sh x))).set j (some (.sh y)))
  | _ => none
@[simp] def tg3 (i j k : Nat) : Tg := fun d env => match d with
  | .tuple [x, y, z] => some (((env.set i (some (.sh x))).set j (some (.sh y))).set k (some (.sh z)))
  | _ => none
/-- what a target does with data -/
def TgRun (T : Ct) (B : Hp × Hp) (g : TG) (is : List Nat) (t : Tg) : Prop := ∀ {G : Hp} {env : VEnv} {σ : L2.St} {H : Hp} {v : V} {d : D} {env' : VEnv} {Q : L2.St → Hp → Prop}, Sim T B G env σ H → Dq G v d → t d env = some env' → (∀ σ', Sim T B G env' σ' H → SetIn is σ σ' → Q σ' H) → g v σ H Q
theorem tr_name {i : Nat} : TgRun T B (gName i) [i] (tgN i) := fun S dq e q => by cases e; exact q _ (S.setSh dq) .one
theorem tr_2 {K : PySem.W.Frag} {i j : Nat} : TgRun T B (gTup K 2 (gCons (gName i) (gCons (gName j) gNil))) [i, j] (tg2 i j) := by
  intro G env σ H v d env' Q S dq e q
  unfold tg2 at e
  split at e
  · cases e
    obtain ⟨l, xs, rfl, sq, q1⟩ := dq.tupInv
    obtain ⟨v1, vs1, rfl, d1, q2⟩ := q1.inv
    obtain ⟨v2, vs2, rfl, d2, q3⟩ := q2.inv
    cases q3.inv0
    exact ⟨l, _, rfl, sqT_K (same_seqT S.gh sq), rfl, v1, _, rfl, v2, _, rfl, rfl, q _ ((S.setSh d1).setSh d2) (SetIn.trans (js := [j]) .one .one)⟩
  · cases e
theorem tr_3 {K : PySem.W.Frag} {i j l : Nat} : TgRun T B (gTup K 3 (gCons (gName i) (gCons (gName j) (gCons (gName l) gNil)))) [i, j, l] (tg3 i j l) := by
  intro G env σ H v d env' Q S dq e q
  unfold tg3 at e
  split at e
  · cases e
    obtain ⟨l, xs, rfl, sq, q1⟩ := dq.tupInv
    obtain ⟨v1, vs1, rfl, d1, q2⟩ := q1.inv
    obtain ⟨v2, vs2, rfl, d2, q3⟩ := q2.inv
    obtain ⟨v3, vs3, rfl, d3, q4⟩ := q3.inv
    cases q4.inv0
    exact ⟨l, _, rfl, sqT_K (same_seqT S.gh sq), rfl, v1, _, rfl, v2, _, rfl, v3, _, rfl, rfl, q _ (((S.setSh d1).setSh d2).setSh d3) (SetIn.trans (is := [i, j]) (SetIn.trans (js := [j]) .one .one) .one)⟩
  · cases e

/-! ### list comprehensions -/
@[simp] def wipeE (env : VEnv) : List Nat → VEnv
  | [] => env
  | v :: vs => (wipeE env vs).set v none
theorem Sim.wipe {env : VEnv} {σ : L2.St} (S : Sim T B G env σ H) : ∀ vs : List Nat, Sim T B G (wipeE env vs) (L2.wipe σ vs) H
  | [] => S
  | v :: vs => (S.wipe vs).setNone
theorem wipe_in {σ : L2.St} {i : Nat} : ∀ {vs : List Nat}, i ∈ vs → i < σ.length → (L2.wipe σ vs)[i]? = some none
  | v :: vs, h, hl => by
    unfold L2.wipe
    by_cases e : v = i
    · subst e; exact List.getElem?_set_self (by rw [wipe_length]; exact hl)
    · rw [List.getElem?_set_ne e]
      exact wipe_in ((List.mem_cons.mp h).resolve_left (Ne.symm e)) hl
theorem wipe_eq {is vs : List Nat} {σ σ' : L2.St} (h : SetIn is (L2.wipe σ vs) σ') (hs : ∀ i ∈ is, i ∈ vs) : L2.wipe σ' vs = L2.wipe σ vs := by
  have hl : σ'.length = σ.length := by rw [h.1, wipe_length]
  refine List.ext_getElem? fun j => ?_
  by_cases hj : j ∈ vs
  · by_cases hb : j < σ.length
    · rw [wipe_in hj (by rw [hl]; exact hb), wipe_in hj hb]
    · rw [List.getElem?_eq_none (by rw [wipe_length]; omega), List.getElem?_eq_none (by rw [wipe_length]; omega)]
  · rw [wipe_out hj, h.2 j (fun z => hj (hs j z)), wipe_out hj]
@[simp] def R.data (r : R) : Option D := match r with
  | .val (.sh d) => some d
  | .val (.ow ds) => some (.list ds)
  | .val (.rg r) => r.toD
  | _ => none
def lcGo (t : Tg) (c e : FE) (env : VEnv) : List D → Option (List D)
  | [] => some []
  | d :: r => match t d env with
    | none => none
    | some env' => match c env' with
      | .val (.sh (.bool true)) => match (e env').data with
        | some y => (lcGo t c e env r).map (y :: ·)
        | none => none
      | .val (.sh (.bool false)) => lcGo t c e env r
      | _ => none
@[simp] def vLc (vs : List Nat) (t : Tg) (it : FI) (c e : FE) : FE := fun env => match it env with
  | .val ds => if ds.length ≤ 1000000 then (match lcGo t c e (wipeE env vs) ds with
    | some ys => .val (.ow ys)
    | none => .stuck) else .stuck
  | .err c => .err c
  | .stuck => .stuck
theorem lcGo_cons {t : Tg} {c e : FE} {env : VEnv} {d : D} {r zs : List D} (h : lcGo t c e env (d :: r) = some zs) : ∃ env', t d env = some env' ∧ ((c env' = rb true ∧ ∃ y zs', (e env').data = some y ∧ lcGo t c e env r = some zs' ∧ zs = y :: zs') ∨ (c env' = rb false ∧ lcGo t c e env r = some zs)) := by
  unfold lcGo at h
  split at h
  · cases h
  · rename_i env' e1
    refine ⟨env', e1, ?_⟩
    split at h
    · rename_i e2
      split at h
      · rename_i y e3
        obtain ⟨zs', e4, rfl⟩ := Option.map_eq_some_iff.mp h
        exact .inl ⟨e2, y, zs', e3, e4, rfl⟩
      · cases h
    · rename_i e2
      exact .inr ⟨e2, h⟩
    · cases h
theorem lc_use {vs is : List Nat} {t : Tg} {it : FI} {c e : FE} {gt : TG} {σ : L2.St} (hg : TgRun T B gt is t)
    (hsub : ∀ i ∈ is, i ∈ vs) (q : rdV T EX B (vLc vs t it c e) σ H Q) : tLc (rdI T EX B it) gt (rdT T E0 B c) (rdV T E0 B e) vs σ H Q := by
  obtain ⟨G, env, S, o⟩ := q
  refine ⟨G, env, S, ?_⟩
  unfold vLc at o
  revert o
  cases it env with
  | err c => exact fun o => o
  | stuck => exact fun o => o
  | val ds =>
    intro o J G1 H1 s1 wk D hD
    dsimp only at o
    split at o
    rotate_left
    · exact o.elim
    rename_i hlen
    split at o
    rotate_left
    · exact o.elim
    rename_i total et
    have S1 := S.step s1
    have W1 := S1.wipe vs
    refine lc_it wk (fun i Hc => ∃ Gc acc ys zs, Step G1 H1 Gc Hc ∧ Hc D = some (.lst acc) ∧ Gc D = none ∧ DqAll Gc acc ys ∧ ys.length ≤ i ∧ lcGo t c e (wipeE env vs) (ds.drop i) = some zs ∧ ys ++ zs = total) ?_ ?_ ?_ ?_
    · exact ⟨G1, [], [], total, Step.apart S1.gh hD _, upd_same, same_none S1.gh hD, .nil, Nat.le_refl _, et, rfl⟩
    · rintro i Hc hi ⟨Gc, acc, ys, zs, st, _⟩
      exact st.gg.trans st.gh
    · rintro i x Hc H' hi ⟨Gc, acc, ys, zs, st, hDc, gD, dq, hyl, el, ez⟩ y
      obtain ⟨d, Gd, hd, sd, dx⟩ := y Gc st.gg st.gh
      have ed : ds.drop i = d :: ds.drop (i + 1) := by
        have hi' : i < ds.length := hi
        rw [List.drop_eq_getElem_cons hi']
        rw [List.getElem?_eq_getElem hi'] at hd
        cases hd; rfl
      rw [ed] at el
      obtain ⟨env', e1, hc⟩ := lcGo_cons el
      have sS : Sim T B Gd (wipeE env vs) (L2.wipe σ vs) H' := (W1.step st).step sd
      obtain ⟨gD', hD'⟩ := sd.own gD hDc
      refine hg sS dx e1 fun σ' S' hset => ⟨wipe_eq hset hsub, Gd, env', S', ?_⟩
      rcases hc with ⟨hc, y, zs', e3, e4, rfl⟩ | ⟨hc, e4⟩
      · rw [hc]
        intro G3 H3 s3
        refine iteT ⟨G3, env', S'.step s3, ?_⟩
        obtain ⟨gD3, hD3⟩ := s3.own gD' hD'
        have fin : ∀ v G4 H4, Step G3 H3 G4 H4 → Dq G4 v y → ∃ acc, H4 D = some (.lst acc) ∧ acc.length < sizeLine ∧ ∃ Gc acc' ys zs, Step G1 H1 Gc (upd H4 D (.lst (acc ++ [v]))) ∧ upd H4 D (.lst (acc ++ [v])) D = some (.lst acc') ∧ Gc D = none ∧ DqAll Gc acc' ys ∧ ys.length ≤ i + 1 ∧ lcGo t c e (wipeE env vs) (ds.drop (i + 1)) = some zs ∧ ys ++ zs = total := by
          intro v G4 H4 s4 dv
          obtain ⟨gD4, hD4⟩ := s4.own gD3 hD3
          have st4 := ((st.trans sd).trans s3).trans s4
          have dq4 := ((dq.mono sd.gg).mono s3.gg).mono s4.gg
          refine ⟨acc, hD4, by rw [dq.length]; exact gl_line (by omega), G4, acc ++ [v], ys ++ [y], zs', ⟨st4.hh.wr hD _ (by rw [hD4]; exact fun _ _ => lst_code), st4.gg, fun b u z => ?_, st4.nw, st4.nm⟩, upd_same, gD4, dq4.append (.cons dv .nil), ?_, e4, ?_⟩
          · rw [upd_ne (ne_of_none z gD4)]; exact st4.gh b u z
          · rw [List.length_append, List.length_singleton]; omega
          · rw [← ez, List.append_assoc]; rfl
        cases ee : e env' with
        | val w =>
          refine Out.fz fun v G4 H4 s4 dv => fin v G4 H4 s4 ?_
          rw [ee] at e3
          cases w with
          | sh d => cases e3; exact dv
          | ow ds => cases e3; exact dv
          | ob _ _ => cases e3
          | rg r =>
            have z := RD.fzv_of (r := r) (d := y) e3
            simp only [SV.fz, z] at dv
            exact dv
        | err _ => rw [ee] at e3; cases e3
        | stuck => rw [ee] at e3; cases e3
      · rw [hc]
        intro G3 H3 s3
        refine iteF ?_
        obtain ⟨gD3, hD3⟩ := s3.own gD' hD'
        exact ⟨G3, acc, ys, zs, (st.trans sd).trans s3, hD3, gD3, (dq.mono sd.gg).mono s3.gg, by omega, e4, ez⟩
    · rintro Hc ⟨Gc, acc, ys, zs, st, hDc, gD, dq, hyl, el, ez⟩
      rw [List.drop_length] at el
      cases el
      rw [List.append_nil] at ez
      subst ez
      exact o D acc Gc Hc (s1.trans st) (SameH.free s1.hh hD) gD hDc dq
/-- the tests of a clause: none, one -/
def VTs (X : Cx) (T : Ct) (B : Hp × Hp) (ifs : List Expr) (c : FE) : Prop := PTs X ifs (rdT T E0 B c)
theorem vts_nil : VTs X T B [] (vC (.bool true)) := ⟨fun pins s σ H Q I h => by
  obtain ⟨G, env, S, o⟩ := h
  exact pts_nil.run pins s σ H Q I (o G H (Step.refl S.gh))⟩
theorem vts_one {c : Expr} {f : FE} (h : VT X T E0 B c f) : VTs X T B [c] f := pts_one h
theorem ve_lc {elt iter : Expr} {ifs : List Expr} {scope : Scope} {own : List (Str × Nat)} {gt : TG} {is : List Nat} {t : Tg} {it : FI} {fc fe : FE} (C : Cv X T EX B) (hi : VI X T EX B tg iter it) (ok : BlkOk X.N X.env.scope scope own)
    (hr : TgRun T B gt is t) (hg : ∀ (s : Shared) (H : Hp) (C : Addr) (cl : List (Str × Addr)) (fp : List Addr), PG (X.blk s H scope (compEnvC scope cl C X.env) fp) tg gt) (ht : ∀ (s : Shared) (H : Hp) (C : Addr) (cl : List (Str × Addr)) (fp : List Addr), VTs (X.blk s H scope (compEnvC scope cl C X.env) fp) T B ifs fc)
    (he : ∀ (s : Shared) (H : Hp) (C : Addr) (cl : List (Str × Addr)) (fp : List Addr), VE (X.blk s H scope (compEnvC scope cl C X.env) fp) T E0 B elt fe) (hsub : ∀ i ∈ is, i ∈ own.map (·.2) := by decide) (hs : ∀ x, foldedSetIterable iter X.env x = pure x := by intro _; rfl) :
    VE X T EX B (.ListComp elt [⟨tg, iter, ifs, 0⟩] scope pos) (vLc (own.map (·.2)) t it fc fe) := by
  exact pe_weak (pe_lc C.calm C.nd hi ok hg ht he hs) fun σ H Q q => lc_use hr hsub q
end
end VL
namespace VL
open PySem L2
/-! ### statements -/
@[simp] def R.s (r : R) (k : SV → SR) : SR := match r with
  | .val v => k v
  | .err c => .err c
  | .stuck => .stuck
@[simp] def sNil : FS := fun env => .nx env
@[simp] def sSeq (s t : FS) : FS := fun env => match s env with
  | .nx e => t e
  | r => r
@[simp] def sExpr (f : FE) : FS := fun env => (f env).s fun _ => .nx env
@[simp] def sRet (f : FE) : FS := fun env => (f env).s fun v => .rt v
@[simp] def sRetN : FS := fun _ => .rt (.sh .none)
@[simp] def sRetO (i : Nat) : FS := fun env => match env[i]? with
  | some (some (.ow ds)) => .rt (.ow ds)
  | _ => .stuck
/-- a value that is never changed -/
@[simp] def sSet (i : Nat) (f : FE) : FS := fun env => (f env).s fun v => .nx (env.set i (some v.fz))
/-- a list of one's own -/
@[simp] def SV.fzR : SV → SV
  | .rg r => SV.fz (.rg r)
  | v => v
@[simp] def sOwn (i : Nat) (f : FE) : FS := fun env => (f env).s fun v => .nx (env.set i (some v.fzR))
@[simp] def sIf (c : FE) (s t : FS) : FS := fun env => match c env with
  | .val (.sh (.bool true)) => s env
  | .val (.sh (.bool false)) => t env
  | .err c => .err c
  | _ => .stuck
@[simp] def sFrz (i : Nat) (s : FS) : FS := fun env => match env[i]? with
  | some (some (.ow ds)) => s (env.set i (some (.sh (.list ds))))
  | _ => s env
def forL (t : Tg) (b : FS) : List D → VEnv → SR
  | [], env => .nx env
  | d :: r, env => match t d env with
    | none => .stuck
    | some env' => match b env' with
      | .nx e => forL t b r e
      | q => q
@[simp] def sFor (t : Tg) (it : FI) (b : FS) : FS := fun env => match it env with
  | .val ds => forL t b ds env
  | .err c => .err c
  | .stuck => .stuck
def sWhile : Nat → FE → FS → FS
  | 0, _, _ => fun _ => .stuck
  | n + 1, c, b => fun env => match c env with
    | .val (.sh (.bool true)) => (match b env with
      | .nx e => sWhile n c b e
      | q => q)
    | .val (.sh (.bool false)) => .nx env
    | .err c => .err c
    | _ => .stuck
section
variable {X : Cx} {T : Ct} {EX : XK} {B : Hp × Hp} {e a b c o tg : Expr} {es : List Expr} {pos p p2 : Pos} {f g h : FE} {fs : List FE} {G H G1 H1 : Hp} {Q : VK} {st : Stmt} {sts : List Stmt} {s t : FS} {D : Ends} {σ : L2.St} {env : VEnv}
theorem OutS.mono {r : SR} {D D' : Ends} (h : OutS T EX B r G D) (hn : ∀ σ H, D.nx σ H → D'.nx σ H) (hr : ∀ v H, D.rt v H → D'.rt v H) : OutS T EX B r G D' := by
  cases r with
  | nx e => exact fun G' σ' H' s S => hn _ _ (h G' σ' H' s S)
  | rt v => exact Out.mono h hr
  | err c => exact h
  | stuck => exact h
theorem OutS.step {r : SR} (h : OutS T EX B r G D) (s : Same G G1) : OutS T EX B r G1 D := by
  cases r with
  | nx e => exact fun G' σ' H' s' S => h G' σ' H' (s.trans s') S
  | rt v => exact h
  | err c => exact h
  | stuck => exact h
/-- a statement's expression -/
theorem seqS {k : SV → SR} {P : VK} (S : Sim T B G env σ H) (h : OutS T EX B ((f env).s k) G D) (hk : ∀ v, f env = .val v → OutS T EX B (k v) G D → Out T EX (.val v) G H P) : rdV T EX B f σ H P := by
  refine ⟨G, env, S, ?_⟩
  cases e : f env with
  | val v => rw [e] at h; exact hk v e h
  | err c => rw [e] at h; exact fun H' z => h H' (S.st.hh.trans z)
  | stuck => rw [e] at h; exact h
theorem vss_nil : VSs X T EX B [] sNil := pss_weak pss_nil fun D σ H q => by
  obtain ⟨G, env, S, o⟩ := q
  exact o G σ H (Same.refl _) S
theorem rdS_seq (q : rdS T EX B (sSeq s t) D σ H) : rdS T EX B s { D with nx := rdS T EX B t D } σ H := by
  obtain ⟨G, env, S, o⟩ := q
  refine ⟨G, env, S, ?_⟩
  unfold sSeq at o
  revert o
  cases s env with
  | nx e => exact fun o G' σ' H' sg S' => ⟨G', e, S', o.step sg⟩
  | rt v => exact fun o => o
  | err c => exact fun o => o
  | stuck => exact fun o => o
theorem vss_cons (h1 : VS X T EX B st s) (h2 : VSs X T EX B sts t) : VSs X T EX B (st :: sts) (sSeq s t) := pss_weak (pss_cons h1 h2) fun D σ H q => rdS_seq q
theorem vss_one (h1 : VS X T EX B st s) : VSs X T EX B [st] s := pss_one h1
theorem vs_pass : VS X T EX B (.Pass pos) sNil := ps_weak ps_pass fun D σ H q => by
  obtain ⟨G, env, S, o⟩ := q
  exact o G σ H (Same.refl _) S
theorem vs_expr (he : VE X T EX B e f) (hs : swapsWith e none pos.line X.env = pure false := by rfl) : VS X T EX B (.Expr e pos) (sExpr f) := ps_weak (ps_expr he hs) fun D σ H q => by
  obtain ⟨G, env, S, o⟩ := q
  exact seqS S o fun v _ o => Out.fz fun x G' H' s q => o G' σ H' s.gg (S.step s)
theorem vs_ret (he : VE X T EX B e f) : VS X T EX B (.Return (some e) pos) (sRet f) := ps_weak (ps_ret he) fun D σ H q => by
  obtain ⟨G, env, S, o⟩ := q
  exact seqS S o fun v _ o => Out.step o S.st
theorem vs_retN : VS X T EX B (.Return none pos) sRetN := ps_weak ps_retN fun D σ H q => by
  obtain ⟨G, env, S, o⟩ := q
  exact o .non G H S.st .non
theorem vs_retO (i : Nat) {x : Str} {px : Pos} (hN : X.N[i]? = some x := by rfl) (hv : Vis X.env.scope x := by first | exact Or.inl rfl | exact Or.inr (Or.inl rfl) | exact Or.inr (Or.inr rfl)) (hd : (x == ("__debug__" : Str)) = false := by decide) (hcd : (x == ("__classdict__" : Str)) = false := by decide) :
    VS X T EX B (.Return (some (.Name x px)) pos) (sRetO i) := ps_weak (ps_ret (pe_var hN hv hd hcd)) fun D σ H q => by
  obtain ⟨G, env, S, o⟩ := q
  unfold sRetO at o
  split at o
  · rename_i ds e
    obtain ⟨p, xs, h1, h2, h3, h4, h5⟩ := S.ow i ds e
    exact ⟨.ref p, h1, o p xs G H S.st h4 h3 h2 h5⟩
  · exact o.elim
theorem set_fz {v : SV} {i : Nat} (S : Sim T B G env σ H) (o : OutS T EX B (.nx (env.set i (some v.fz))) G D) : Out T EX (.val v) G H (fun x H1 => D.nx (σ.set i (some x)) H1) :=
  Out.fz fun x G' H' s q => by
    have S1 := S.step s
    cases v with
    | sh d => exact o G' _ H' s.gg (S1.setSh q)
    | ow ds => exact o G' _ H' s.gg (S1.setSh q)
    | ob c fs => exact o G' _ H' s.gg (S1.setOb q)
    | rg r =>
      revert o q
      generalize SV.fz (.rg r) = w
      intro o q
      cases w with
      | sh d => exact o G' _ H' s.gg (S1.setSh q)
      | ow ds => exact q.elim
      | rg _ => exact q.elim
      | ob c fs => exact o G' _ H' s.gg (S1.setOb q)
/-- no place of a thing of one's own is new -/
theorem newR_old {H' G' : Hp} {p : Addr} (S : Sim T B G env σ H) (s : Step G H G' H') (n : H p = none) {j : Nat} {r : RD} {v : V} {F : List Addr} (e : env[j]? = some (some (.rg r))) (w : σ[j]? = some (some v)) (q : RRp T G' H' F v r) : p ∉ F := by
  obtain ⟨u, v', F', a', b', c'⟩ := S.rg j r e
  rw [w] at a'; cases a'
  obtain ⟨_, k⟩ := s.keepS (fun a m => (b'.nw a m).1) (RRp.at r F' v b'.rp)
  rw [RRp.det r F' F v b'.rp q k]
  intro m
  obtain ⟨o, h, _⟩ := RRp.at r F' v b'.rp p m
  rw [n] at h; cases h
theorem set_ow {v : SV} {i : Nat} (S : Sim T B G env σ H) (o : OutS T EX B (.nx (env.set i (some v.fzR))) G D) : Out T EX (.val v) G H (fun x H1 => D.nx (σ.set i (some x)) H1) := by
  cases v with
  | rg r => exact set_fz S o
  | sh d => exact fun x G' H' s q => o G' _ H' s.gg ((S.step s).setSh q)
  | ob c fs => exact fun x G' H' s q => o G' _ H' s.gg ((S.step s).setOb q)
  | ow ds =>
    intro p xs G' H' s n1 n2 ep q
    refine o G' _ H' s.gg ((S.step s).setOw (SameH.free S.st.hh n1) n2 ep q (fun j es z _ w => ?_) fun j r v F z _ w y => newR_old S s n1 z w y)
    obtain ⟨p', ys, h1, h2, _⟩ := S.ow j es z
    rw [w] at h1; cases h1
    rw [n1] at h2; cases h2
theorem vs_set (i : Nat) {x : Str} {pos' : Pos} (C : Cv X T EX B) (he : VE X T EX B e f) (hi : X.N[i]? = some x := by rfl) (hx : Loc X.env.scope x := by first | exact .inl rfl | exact .inr rfl) (hs : swapsWith e (some (.Name x pos')) pos.line X.env = pure false := by rfl) (hf : X.fn x = true ∨ X.env.scope.names.lookup x = some .local := by first | exact .inl rfl | exact .inr rfl) :
    VS X T EX B (.Assign [.Name x pos'] e pos) (sSet i f) := ps_weak (ps_set C.nd hi hx he hs hf) fun D σ H q => by
  obtain ⟨G, env, S, o⟩ := q
  exact seqS S o fun v _ o => set_fz S o
theorem vs_own (i : Nat) {x : Str} {pos' : Pos} (C : Cv X T EX B) (he : VE X T EX B e f) (hi : X.N[i]? = some x := by rfl) (hx : Loc X.env.scope x := by first | exact .inl rfl | exact .inr rfl) (hs : swapsWith e (some (.Name x pos')) pos.line X.env = pure false := by rfl) (hf : X.fn x = true ∨ X.env.scope.names.lookup x = some .local := by first | exact .inl rfl | exact .inr rfl) :
    VS X T EX B (.Assign [.Name x pos'] e pos) (sOwn i f) := ps_weak (ps_set C.nd hi hx he hs hf) fun D σ H q => by
  obtain ⟨G, env, S, o⟩ := q
  exact seqS S o fun v _ o => set_ow S o
/-- x = [.. for ..] on one line -/
theorem vs_setLc (i : Nat) {y : Str} {py : Pos} {elt iter : Expr} {ifs : List Expr} {scope : Scope} {own : List (Str × Nat)} {spos : Pos} {gt : TG} {is : List Nat} {tt : Tg} {it : FI} {fc fe : FE} (C : Cv X T EX B)
    (hi : VI X T EX B tg iter it) (ok : BlkOk X.N X.env.scope scope own) (hr : TgRun T B gt is tt)
    (hg : ∀ (s : Shared) (H : Hp) (C : Addr) (cl : List (Str × Addr)) (fp : List Addr), PG (X.blk s H scope (compEnvC scope cl C X.env) fp) tg gt) (ht : ∀ (s : Shared) (H : Hp) (C : Addr) (cl : List (Str × Addr)) (fp : List Addr), VTs (X.blk s H scope (compEnvC scope cl C X.env) fp) T B ifs fc)
    (he : ∀ (s : Shared) (H : Hp) (C : Addr) (cl : List (Str × Addr)) (fp : List Addr), VE (X.blk s H scope (compEnvC scope cl C X.env) fp) T E0 B elt fe) (hsub : ∀ i ∈ is, i ∈ own.map (·.2) := by decide) (hs : ∀ x, foldedSetIterable iter X.env x = pure x := by intro _; rfl)
    (hy : X.N[i]? = some y := by rfl) (hyl : X.env.scope.names.lookup y = some .local := by rfl) (hsw : swapsWith (.ListComp elt [⟨tg, iter, ifs, 0⟩] scope pos) (some (.Name y py)) spos.line X.env = pure true := by exact sw_true rfl rfl rfl (by decide +kernel)) :
    VS X T EX B (.Assign [.Name y py] (.ListComp elt [⟨tg, iter, ifs, 0⟩] scope pos) spos) (sSet i (vLc (own.map (·.2)) tt it fc fe)) := ps_weak (ps_setLc C.calm C.nd hy hyl hsw hi ok hg ht he hs) fun D σ H q => by
  obtain ⟨G, env, S, o⟩ := q
  exact lc_use hr hsub (seqS S o fun v _ o => set_fz S o)
theorem vs_ownLc (i : Nat) {y : Str} {py : Pos} {elt iter : Expr} {ifs : List Expr} {scope : Scope} {own : List (Str × Nat)} {spos : Pos} {gt : TG} {is : List Nat} {tt : Tg} {it : FI} {fc fe : FE} (C : Cv X T EX B)
    (hi : VI X T EX B tg iter it) (ok : BlkOk X.N X.env.scope scope own) (hr : TgRun T B gt is tt)
    (hg : ∀ (s : Shared) (H : Hp) (C : Addr) (cl : List (Str × Addr)) (fp : List Addr), PG (X.blk s H scope (compEnvC scope cl C X.env) fp) tg gt) (ht : ∀ (s : Shared) (H : Hp) (C : Addr) (cl : List (Str × Addr)) (fp : List Addr), VTs (X.blk s H scope (compEnvC scope cl C X.env) fp) T B ifs fc)
    (he : ∀ (s : Shared) (H : Hp) (C : Addr) (cl : List (Str × Addr)) (fp : List Addr), VE (X.blk s H scope (compEnvC scope cl C X.env) fp) T E0 B elt fe) (hsub : ∀ i ∈ is, i ∈ own.map (·.2) := by decide) (hs : ∀ x, foldedSetIterable iter X.env x = pure x := by intro _; rfl)
    (hy : X.N[i]? = some y := by rfl) (hyl : X.env.scope.names.lookup y = some .local := by rfl) (hsw : swapsWith (.ListComp elt [⟨tg, iter, ifs, 0⟩] scope pos) (some (.Name y py)) spos.line X.env = pure true := by exact sw_true rfl rfl rfl (by decide +kernel)) :
    VS X T EX B (.Assign [.Name y py] (.ListComp elt [⟨tg, iter, ifs, 0⟩] scope pos) spos) (sOwn i (vLc (own.map (·.2)) tt it fc fe)) := ps_weak (ps_setLc C.calm C.nd hy hyl hsw hi ok hg ht he hs) fun D σ H q => by
  obtain ⟨G, env, S, o⟩ := q
  exact lc_use hr hsub (seqS S o fun v _ o => set_ow S o)
theorem rdS_if (q : rdS T EX B (sIf h s t) D σ H) : rdT T EX B h σ H (fun b H1 => if b = true then rdS T EX B s D σ H1 else rdS T EX B t D σ H1) := by
  obtain ⟨G, env, S, o⟩ := q
  refine ⟨G, env, S, ?_⟩
  unfold sIf at o
  split at o
  · rename_i e
    rw [e]; exact fun G' H' s' => iteT ⟨G', env, S.step s', o.step s'.gg⟩
  · rename_i e
    rw [e]; exact fun G' H' s' => iteF ⟨G', env, S.step s', o.step s'.gg⟩
  · rename_i c e
    rw [e]; exact fun H' z => o H' (S.st.hh.trans z)
  · exact o.elim
theorem vs_if {sa sb : List Stmt} (hc : VT X T EX B c h) (ha : VSs X T EX B sa s) (hb : VSs X T EX B sb t) : VS X T EX B (.If c sa sb pos) (sIf h s t) := ps_weak (ps_if hc ha hb) fun D σ H q => rdS_if q
theorem vs_frz (i : Nat) (h : VS X T EX B st s) : VS X T EX B st (sFrz i s) := ps_weak h fun D σ H q => by
  obtain ⟨G, env, S, o⟩ := q
  unfold sFrz at o
  split at o
  · rename_i ds e
    obtain ⟨G', sg, S'⟩ := S.frz e
    exact ⟨G', _, S', o.step sg⟩
  · exact ⟨G, env, S, o⟩
theorem vs_for {body : List Stmt} {gt : TG} {is : List Nat} {tt : Tg} {it : FI} (C : Cv X T EX B) (po : PassesOwn (model X.prog X.w) X.A X.env X.xe) (hi : VI X T EX B tg a it) (hr : TgRun T B gt is tt) (hg : PG X tg gt) (hb : VSs X T EX B body s) (hs : ∀ x, foldedSetIterable a X.env x = pure x := by intro _; rfl) :
    VS X T EX B (.For tg a body [] pos) (sFor tt it s) := ps_weak (ps_for po C.calm hi hg hb hs) fun D σ H q => by
  obtain ⟨G, env, S, o⟩ := q
  refine ⟨G, env, S, ?_⟩
  unfold sFor at o
  revert o
  cases it env with
  | err c => exact fun o H' z => o H' (S.st.hh.trans z)
  | stuck => exact fun o => o
  | val ds =>
    intro o J G1 H1 s1 wk
    dsimp only at o
    refine for_it wk (fun i σ H => ∃ Gc env', Sim T B Gc env' σ H ∧ Same G1 Gc ∧ OutS T EX B (forL tt s (ds.drop i) env') Gc D) ⟨G1, env, S.step s1, Same.refl _, o.step s1.gg⟩ ?_ ?_ ?_
    · rintro i σ H _ ⟨Gc, env', S', sg, _⟩
      exact sg.trans S'.gh
    · rintro i x σ Hc H' hi ⟨Gc, env', S', sg, o'⟩ y
      obtain ⟨d, Gd, hd, sd, dx⟩ := y Gc sg S'.gh
      have ed : ds.drop i = d :: ds.drop (i + 1) := by
        have hi' : i < ds.length := hi
        rw [List.drop_eq_getElem_cons hi']
        rw [List.getElem?_eq_getElem hi'] at hd
        cases hd; rfl
      rw [ed] at o'
      unfold forL at o'
      split at o'
      · exact o'.elim
      · rename_i env2 e2
        refine hr (S'.step sd) dx e2 fun σ2 S2 _ => ⟨Gd, env2, S2, ?_⟩
        revert o'
        cases s env2 with
        | nx e3 => exact fun o' G' σ' H' sg' S3 => ⟨G', e3, S3, (sg.trans sd.gg).trans sg', o'.step (sd.gg.trans sg')⟩
        | rt v => exact fun o' => o'
        | err c => exact fun o' => o'
        | stuck => exact fun o' => o'
    · rintro σ H ⟨Gc, env', S', sg, o'⟩
      rw [List.drop_length] at o'
      exact o' Gc σ H (Same.refl _) S'
theorem vs_while {body : List Stmt} (n : Nat) (po : PassesOwn (model X.prog X.w) X.A X.env X.xe) (hc : VT X T EX B c h) (hb : VSs X T EX B body s) : VS X T EX B (.While c body [] pos) (sWhile n h s) := ps_weak (ps_while po hc hb) fun D σ H q => by
  obtain ⟨G, env, S, o⟩ := q
  refine ⟨fun m σ H => ∃ G env, Sim T B G env σ H ∧ OutS T EX B (sWhile m h s env) G D, ⟨n, G, env, S, o⟩, ?_⟩
  rintro m σ H ⟨G, env, S, o⟩
  refine ⟨G, env, S, ?_⟩
  cases m with
  | zero => exact o.elim
  | succ m =>
    unfold sWhile at o
    split at o
    · rename_i e
      rw [e]
      intro G' H' s'
      refine iteT ⟨fun σ H => ∃ G env, Sim T B G env σ H ∧ OutS T EX B (sWhile m h s env) G D, fun σ' H' z => ⟨m, Nat.lt_succ_self _, z⟩, G', env, S.step s', ?_⟩
      have o' := o.step s'.gg
      revert o'
      cases s env with
      | nx e3 => exact fun o' G2 σ2 H2 sg S3 => ⟨G2, e3, S3, o'.step sg⟩
      | rt v => exact fun o' => o'
      | err c => exact fun o' => o'
      | stuck => exact fun o' => o'
    · rename_i e
      rw [e]
      exact fun G' H' s' => iteF (o G' σ H' s'.gg (S.step s'))
    · rename_i c e
      rw [e]; exact fun H' z => o H' (S.st.hh.trans z)
    · exact o.elim
end
end VL
namespace VL
open PySem L2
/-! ### a list of one's own: changed, read -/
@[simp] def sApp (i : Nat) (f : FE) : FS := fun env => match env[i]? with
  | some (some (.ow ds)) => (match evA [f] env with
    | .val [.sh d] => if ds.length ≤ 1000000 then .nx (env.set i (some (.ow (ds ++ [d])))) else .stuck
    | .err c => .err c
    | _ => .stuck)
  | _ => .stuck
@[simp] def sExt (i : Nat) (f : FE) : FS := fun env => match env[i]? with
  | some (some (.ow ds)) => (match evA [f] env with
    | .val [.sh (.list es)] => if ds.length + es.length ≤ 1000000 then .nx (env.set i (some (.ow (ds ++ es)))) else .stuck
    | .err c => .err c
    | _ => .stuck)
  | _ => .stuck
/-- x = y.pop() -/
@[simp] def sPop (i j : Nat) : FS := fun env => match env[j]? with
  | some (some (.ow ds)) => (match ds.getLast? with
    | some d => .nx ((env.set j (some (.ow ds.dropLast))).set i (some (.sh d)))
    | none => .stuck)
  | _ => .stuck
/-- y.pop() -/
@[simp] def sPopN (j : Nat) : FS := fun env => match env[j]? with
  | some (some (.ow ds)) => (match ds.getLast? with
    | some d => .nx (env.set j (some (.ow ds.dropLast)))
    | none => .stuck)
  | _ => .stuck
/-- xs[k] = e -/
@[simp] def sPut (i : Nat) (g f : FE) : FS := fun env => match env[i]? with
  | some (some (.ow ds)) => (f env).s fun v => match v.fz with
    | .sh d => (match g env with
      | .val (.sh (.int k)) => (match ixN ds.length k with
        | some j => .nx (env.set i (some (.ow (ds.set j d))))
        | none => .stuck)
      | .err c => .err c
      | _ => .stuck)
    | _ => .stuck
  | _ => .stuck
def vLenO (i : Nat) : FE := fun env => match env[i]? with
  | some (some (.ow ds)) => ri ds.length
  | _ => .stuck
def vIxO (i : Nat) (g : FE) : FE := fun env => match env[i]? with
  | some (some (.ow ds)) => (g env).d fun y => fIx (.list ds) y
  | _ => .stuck
/-- xs == [], xs != [] -/
def vNilO (k : Bool) (i : Nat) : FE := fun env => match env[i]? with
  | some (some (.ow ds)) => rb (k ^^ ds.isEmpty)
  | _ => .stuck
@[simp] def sAdd (i : Nat) (f : FE) : FS := fun env => match env[i]? with
  | some (some (.sh (.int x))) => (match f env with
    | .val (.sh (.int y)) => .nx (env.set i (some (.sh (.int (x + y)))))
    | .err c => .err c
    | _ => .stuck)
  | _ => .stuck
section
variable {X : Cx} {T : Ct} {EX : XK} {B : Hp × Hp} {e a b c o tg : Expr} {es : List Expr} {pos p p2 : Pos} {f g h : FE} {fs : List FE} {G H G1 H1 : Hp} {Q : VK} {st : Stmt} {sts : List Stmt} {s t : FS} {D : Ends} {σ : L2.St} {env : VEnv}
/-- extend by a list that may be locked -/
def rExtR : V → List V → Hp → VK → Prop := fun x vs H Q => ∃ l b xs zs, x = .ref l ∧ vs = [.ref b] ∧ H l = some (.lst xs) ∧ SqL [] H b zs ∧ xs.length + zs.length ≤ sizeLine ∧ Q .non (upd H l (.lst (xs ++ zs)))
theorem mt_extR : MtM X "list.extend" rExtR := by
  intro pins s σ H x vs v us Q I rx rv h
  obtain ⟨l, b, xs, zs, rfl, rfl, hH, hB, hz, q⟩ := h
  cases rx
  obtain ⟨u, rfl, ru⟩ := rv.one
  cases ru
  obtain ⟨z, its, n, r, hl, e⟩ := I.lstM hH
  obtain ⟨z2, its2, n2, r2, hl2, e2⟩ := rd_lst I hB
  have hsz : its.toArray.size + its2.toArray.size ≤ sizeLine := by rw [List.size_toArray, List.size_toArray]; omega
  have hlong : ¬ (!its.toArray.isEmpty && Builtin.List.listTooLong (its.toArray.size + its2.toArray.size)) = true := by
    rw [notLongL hsz, Bool.and_false]
    exact Bool.false_ne_true
  refine call_meets F.slot_list_extend ⟨_, e, rfl⟩ F.entry_list_extend (F.args_list_extend_2 _ _)
    (AutoSeq1.list_extend_list_list_0 l its.toArray n b its2.toArray n2 hlong (by rw [List.size_toArray]; omega) (by omega)) ⟨e, e2, ?_⟩
  refine ⟨.non, _, I.lset (its' := its ++ its2) hH e (by simp) (r.append r2) ?_, rfl, q⟩
  rw [List.length_append]
  omega
/-- one argument, then the list is changed -/
theorem args1 {K : SV → SR} {P : List V → Hp → Prop} (S : Sim T B G env σ H) (h : OutS T EX B (match evA [f] env with | .val [d] => K d | .err c => .err c | _ => .stuck) G D)
    (hk : ∀ a v G1 H1, Step G H G1 H1 → VRp T G1 v a → Sim T B G1 env σ H1 → OutS T EX B (K a) G1 D → P [v] H1) : rdA T EX B [f] σ H P := by
  refine ⟨G, env, S, ?_⟩
  revert h
  cases evA [f] env with
  | val as =>
    intro h vs G' H' s' q
    split at h
    · rename_i d e
      cases e
      cases q with
      | cons h1 t =>
        cases t
        exact hk d _ G' H' s' h1 (S.step s') (h.step s'.gg)
    · rename_i e; cases e
    · exact h.elim
  | err c => exact fun h H' z => h H' (S.st.hh.trans z)
  | stuck => exact fun h => h
theorem vs_app (i : Nat) {x : Str} {px apos cpos : Pos} (he : VE X T EX B e f) (hN : X.N[i]? = some x := by rfl) (hv : Vis X.env.scope x := by first | exact Or.inl rfl | exact Or.inr (Or.inl rfl) | exact Or.inr (Or.inr rfl)) (hd : (x == ("__debug__" : Str)) = false := by decide) (hcd : (x == ("__classdict__" : Str)) = false := by decide)
    (hline : (apos.endLine == cpos.line) = true := by rfl) (hs : starEach [e] X.env = [(false, eval e X.env)] := by rfl) :
    VS X T EX B (.Expr (.Call (.Attribute (.Name x px) "append" apos) [e] [] cpos) pos) (sApp i f) := by
  refine ps_weak (ps_expr (pe_bm PySem.F.plainAttrs_list PySem.F.slot_list_append PySem.F.type_list_append mt_append (pe_var hN hv hd hcd) (va_cons he va_nil hs) rfl (by rw [hs]; rfl) hline hs rfl) rfl) fun D σ H q => ?_
  obtain ⟨G, env, S, o⟩ := q
  unfold sApp at o
  split at o
  · rename_i ds ei
    obtain ⟨p, xs, h1, h2, h3, h4, h5⟩ := S.ow i ds ei
    refine ⟨.ref p, h1, .inl ⟨rfl, xs, SqL.of h2⟩, args1 (D := D) (K := fun a => match a with | .sh d => if ds.length ≤ 1000000 then .nx (env.set i (some (.ow (ds ++ [d])))) else .stuck | _ => .stuck) S ?_ fun a v G1 H1 s1 rp S1 o1 => ?_⟩
    · revert o
      cases evA [f] env with
      | val as =>
        cases as with
        | nil => exact fun o => o
        | cons a r =>
          cases r with
          | nil => cases a <;> exact fun o => o
          | cons _ _ => exact fun o => by cases a <;> exact o
      | err c => exact fun o => o
      | stuck => exact fun o => o
    · cases a with
      | sh d =>
        dsimp only at o1
        split at o1
        · rename_i hl
          obtain ⟨h3', h2'⟩ := s1.own h3 h2
          have h5' := h5.mono s1.gg
          refine ⟨p, xs, v, rfl, rfl, h2', by rw [h5.length]; exact gl_line hl, o1 G1 σ _ (Same.refl _) (S1.write ei h1 (h5'.append (.cons rp .nil)))⟩
        · exact o1.elim
      | ow _ => exact o1.elim
      | ob _ _ => exact o1.elim
      | rg _ => exact o1.elim
  · exact o.elim
theorem vs_ext (i : Nat) {x : Str} {px apos cpos : Pos} (he : VE X T EX B e f) (hN : X.N[i]? = some x := by rfl) (hv : Vis X.env.scope x := by first | exact Or.inl rfl | exact Or.inr (Or.inl rfl) | exact Or.inr (Or.inr rfl)) (hd : (x == ("__debug__" : Str)) = false := by decide) (hcd : (x == ("__classdict__" : Str)) = false := by decide)
    (hline : (apos.endLine == cpos.line) = true := by rfl) (hs : starEach [e] X.env = [(false, eval e X.env)] := by rfl) :
    VS X T EX B (.Expr (.Call (.Attribute (.Name x px) "extend" apos) [e] [] cpos) pos) (sExt i f) := by
  refine ps_weak (ps_expr (pe_bm PySem.F.plainAttrs_list PySem.F.slot_list_extend PySem.F.type_list_extend mt_extR (pe_var hN hv hd hcd) (va_cons he va_nil hs) rfl (by rw [hs]; rfl) hline hs rfl) rfl) fun D σ H q => ?_
  obtain ⟨G, env, S, o⟩ := q
  unfold sExt at o
  split at o
  · rename_i ds ei
    obtain ⟨p, xs, h1, h2, h3, h4, h5⟩ := S.ow i ds ei
    refine ⟨.ref p, h1, .inl ⟨rfl, xs, SqL.of h2⟩, args1 (D := D) (K := fun a => match a with | .sh (.list es) => if ds.length + es.length ≤ 1000000 then .nx (env.set i (some (.ow (ds ++ es)))) else .stuck | _ => .stuck) S ?_ fun a v G1 H1 s1 rp S1 o1 => ?_⟩
    · revert o
      cases evA [f] env with
      | val as =>
        cases as with
        | nil => exact fun o => o
        | cons a r =>
          cases r with
          | nil =>
            cases a with
            | sh d => cases d <;> exact fun o => o
            | ow _ => exact fun o => o
            | ob _ _ => exact fun o => o
            | rg _ => exact fun o => o
          | cons _ _ =>
            cases a with
            | sh d => cases d <;> exact fun o => o
            | ow _ => exact fun o => o
            | ob _ _ => exact fun o => o
            | rg _ => exact fun o => o
      | err c => exact fun o => o
      | stuck => exact fun o => o
    · split at o1
      · split at o1
        · rename_i hl
          obtain ⟨h3', h2'⟩ := s1.own h3 h2
          have h5' := h5.mono s1.gg
          obtain ⟨l2, zs, rfl, sq, q2⟩ := Dq.lstH rp S1.gh
          refine ⟨p, l2, xs, zs, rfl, rfl, h2', sq, by rw [h5.length, q2.length]; exact Nat.le_of_lt (gl_line hl), o1 G1 σ _ (Same.refl _) (S1.write ei h1 (h5'.append q2))⟩
        · exact o1.elim
      · exact o1.elim
  · exact o.elim
theorem dq_last {ds : List VL.D} {xs : List V} {d : VL.D} (q : DqAll G xs ds) (h : ds.getLast? = some d) : ∃ y, xs[xs.length - 1]? = some y ∧ Dq G y d := by
  rw [List.getLast?_eq_getElem?] at h
  rw [q.length]
  exact q.get h
theorem dq_dropLast {ds : List VL.D} {xs : List V} (q : DqAll G xs ds) : DqAll G xs.dropLast ds.dropLast := by
  rw [List.dropLast_eq_take, List.dropLast_eq_take, q.length]
  exact q.take _
theorem vs_pop (i j : Nat) {x y : Str} {px py apos cpos : Pos} (C : Cv X T EX B) (hN : X.N[j]? = some x := by rfl) (hv : Vis X.env.scope x := by first | exact Or.inl rfl | exact Or.inr (Or.inl rfl) | exact Or.inr (Or.inr rfl)) (hd : (x == ("__debug__" : Str)) = false := by decide) (hcd : (x == ("__classdict__" : Str)) = false := by decide)
    (hline : (apos.endLine == cpos.line) = true := by rfl) (hi : X.N[i]? = some y := by rfl) (hx : Loc X.env.scope y := by first | exact .inl rfl | exact .inr rfl) (hf : X.fn y = true ∨ X.env.scope.names.lookup y = some .local := by first | exact .inl rfl | exact .inr rfl) :
    VS X T EX B (.Assign [.Name y py] (.Call (.Attribute (.Name x px) "pop" apos) [] [] cpos) pos) (sPop i j) := by
  refine ps_weak (ps_set C.nd hi hx (pe_bm0 PySem.F.plainAttrs_list PySem.F.slot_list_pop PySem.F.type_list_pop mt_pop (pe_var hN hv hd hcd) rfl hline) rfl hf) fun D σ H q => ?_
  obtain ⟨G, env, S, o⟩ := q
  unfold sPop at o
  split at o
  · rename_i ds ei
    split at o
    · rename_i d hd
      obtain ⟨p, xs, h1, h2, h3, h4, h5⟩ := S.ow j ds ei
      obtain ⟨y, hy, dy⟩ := dq_last h5 hd
      have S1 := S.write ei h1 (dq_dropLast h5)
      exact ⟨.ref p, h1, .inl ⟨rfl, xs, SqL.of h2⟩, p, xs, y, rfl, rfl, h2, hy, o G _ _ (Same.refl _) (S1.setSh dy)⟩
    · exact o.elim
  · exact o.elim
theorem vs_popN (j : Nat) {x : Str} {px apos cpos : Pos} (hN : X.N[j]? = some x := by rfl) (hv : Vis X.env.scope x := by first | exact Or.inl rfl | exact Or.inr (Or.inl rfl) | exact Or.inr (Or.inr rfl)) (hd : (x == ("__debug__" : Str)) = false := by decide) (hcd : (x == ("__classdict__" : Str)) = false := by decide)
    (hline : (apos.endLine == cpos.line) = true := by rfl) : VS X T EX B (.Expr (.Call (.Attribute (.Name x px) "pop" apos) [] [] cpos) pos) (sPopN j) := by
  refine ps_weak (ps_expr (pe_bm0 PySem.F.plainAttrs_list PySem.F.slot_list_pop PySem.F.type_list_pop mt_pop (pe_var hN hv hd hcd) rfl hline) rfl) fun D σ H q => ?_
  obtain ⟨G, env, S, o⟩ := q
  unfold sPopN at o
  split at o
  · rename_i ds ei
    split at o
    · rename_i d hd
      obtain ⟨p, xs, h1, h2, h3, h4, h5⟩ := S.ow j ds ei
      obtain ⟨y, hy, dy⟩ := dq_last h5 hd
      have S1 := S.write ei h1 (dq_dropLast h5)
      exact ⟨.ref p, h1, .inl ⟨rfl, xs, SqL.of h2⟩, p, xs, y, rfl, rfl, h2, hy, o G _ _ (Same.refl _) S1⟩
    · exact o.elim
  · exact o.elim
theorem DqAll.set : ∀ {ds : List VL.D} {xs : List V} {v : V} {d : VL.D} (j : Nat), DqAll G xs ds → Dq G v d → DqAll G (xs.set j v) (ds.set j d)
  | [], _, _, _, _, q, _ => by rw [q.inv0]; exact .nil
  | _ :: _, _, _, _, 0, q, h => by
    obtain ⟨v, vs, rfl, q1, q2⟩ := q.inv
    exact .cons h q2
  | _ :: _, _, _, _, j + 1, q, h => by
    obtain ⟨v, vs, rfl, q1, q2⟩ := q.inv
    exact .cons q1 (q2.set j h)
theorem vs_put (i : Nat) {x : Str} {px tpos : Pos} (hg : VE X T EX B b g) (he : VE X T EX B e f) (hN : X.N[i]? = some x := by rfl) (hv : Vis X.env.scope x := by first | exact Or.inl rfl | exact Or.inr (Or.inl rfl) | exact Or.inr (Or.inr rfl)) (hd : (x == ("__debug__" : Str)) = false := by decide) (hcd : (x == ("__classdict__" : Str)) = false := by decide)
    (hpg : ∀ {to ti : TE}, PE X (.Name x px) to → PE X b ti → PG X (.Subscript (.Name x px) b tpos) (gSub to ti rSetL) := by intro to ti h1 h2; exact pg_sub h1 h2 set_list)
    (hs : swapsWithSole [.Subscript (.Name x px) b tpos] e pos.line X.env = pure false := by rfl) (hw : swappedStores [.Subscript (.Name x px) b tpos] e X.env = pure none := by rfl) :
    VS X T EX B (.Assign [.Subscript (.Name x px) b tpos] e pos) (sPut i g f) := by
  refine ps_weak (ps_asg he (hpg (pe_var hN hv hd hcd) hg) hs hw) fun D σ H q => ?_
  obtain ⟨G, env, S, o⟩ := q
  unfold sPut at o
  split at o
  rotate_left
  · exact o.elim
  rename_i ds ei
  refine seqS S o fun v ev o => Out.fz fun x G' H' s rp => ?_
  have S1 := S.step s
  have o := o.step s.gg
  split at o
  · rename_i d ed
    rw [ed] at rp
    obtain ⟨p, xs, h1, h2, h3, h4, h5⟩ := S1.ow i ds ei
    refine ⟨.ref p, h1, G', env, S1, ?_⟩
    split at o
    · rename_i k eg
      split at o
      · rename_i j ej
        rw [eg]
        intro w G2 H2 s2 dw
        obtain ⟨h3', h2'⟩ := s2.own h3 h2
        refine ⟨p, xs, k, j, rfl, Dq.intInv dw, h2', by rw [h5.length]; exact ej, ?_⟩
        exact o G2 σ _ s2.gg ((S1.step s2).write ei h1 (DqAll.set j (h5.mono s2.gg) (Dq.mono rp s2.gg)))
      · exact o.elim
    · rename_i c eg
      rw [eg]
      exact fun H2 z => o H2 (S1.st.hh.trans z)
    · exact o.elim
  · exact o.elim

/-! ### reading a list of one's own -/
theorem ve_lenO (i : Nat) {x : Str} {px : Pos} (t : Bt X "len") (hN : X.N[i]? = some x := by rfl) (hv : Vis X.env.scope x := by first | exact Or.inl rfl | exact Or.inr (Or.inl rfl) | exact Or.inr (Or.inr rfl)) (hd : (x == ("__debug__" : Str)) = false := by decide) (hcd : (x == ("__classdict__" : Str)) = false := by decide) :
    VE X T EX B (.Call (.Name "len" p) [.Name x px] [] pos) (vLenO i) := pe_weak (pe_callB call_len_seq t.gl t.mg PySem.boot_len (pa_cons (pe_var hN hv hd hcd) pa_nil rfl) (by decide) (by decide) rfl rfl) fun σ H Q q => by
  obtain ⟨G, env, S, o⟩ := q
  unfold vLenO at o
  split at o
  · rename_i ds e
    obtain ⟨p, xs, h1, h2, h3, h4, h5⟩ := S.ow i ds e
    exact ⟨.ref p, h1, p, xs, rfl, .inl (SqL.of h2), by rw [h5.length]; exact o.ri S.gh⟩
  · exact o.elim
theorem ve_ixO (i : Nat) {x : Str} {px : Pos} (hb : VE X T EX B b g) (hN : X.N[i]? = some x := by rfl) (hv : Vis X.env.scope x := by first | exact Or.inl rfl | exact Or.inr (Or.inl rfl) | exact Or.inr (Or.inr rfl)) (hd : (x == ("__debug__" : Str)) = false := by decide) (hcd : (x == ("__classdict__" : Str)) = false := by decide) (hs : PlainIx b := by intro _ _; rfl) :
    VE X T EX B (.Subscript (.Name x px) b pos) (vIxO i g) := pe_weak (pe_ix ix_list (pe_var hN hv hd hcd) hb hs) fun σ H Q q => by
  obtain ⟨G, env, S, o⟩ := q
  unfold vIxO at o
  split at o
  · rename_i ds e
    obtain ⟨p, xs, h1, h2, h3, h4, h5⟩ := S.ow i ds e
    refine ⟨.ref p, h1, rdV_mono (seqD S o) fun y H1 ⟨dy, G1, s1, hy, S1, o1⟩ => ?_⟩
    obtain ⟨h3', h2'⟩ := s1.own h3 h2
    unfold fIx at o1
    split at o1
    · rename_i z; cases z
    · rename_i ds' k z
      cases z
      rw [hy.intInv]
      split at o1
      · rename_i d ed
        obtain ⟨v, e1, d1⟩ := (h5.mono s1.gg).atI ed
        exact ⟨p, xs, k, v, rfl, rfl, SqL.of h2', e1, o1.ok S1.gh d1⟩
      · exact o1.elim
    · exact o1.elim
  · exact o.elim
theorem eqv_nil : ∀ ds : List VL.D, PyData.eqv (.list ds) (.list []) = ds.isEmpty
  | [] => by simp only [PyData.eqv, PyData.eqvAll, List.isEmpty_nil]
  | d :: r => by simp only [PyData.eqv, PyData.eqvAll, List.isEmpty_cons]
theorem nil_prim {k : Bool} {i : Nat} (op : CmpOp) (ho : OpR X (compareOp op) (rEqQ k)) (S : Sim T B G env σ H) (o : Out T EX (vNilO k i env) G H Q) : ∃ v, σ[i]? = some (some v) ∧ (0 ≤ sizeLine ∧ ∀ p, H p = none → rEqQ k v (.ref p) (upd H p (.lst [])) Q) := by
  unfold vNilO at o
  split at o
  · rename_i ds e
    obtain ⟨p, xs, h1, h2, h3, h4, h5⟩ := S.ow i ds e
    refine ⟨.ref p, h1, Nat.zero_le _, fun q hq => ⟨.list ds, .list [], Dq.lst (SqL.of ?_) (h5.mono (S.gh.trans (same_upd hq _))), Dq.lst (SqL.of upd_same) .nil, ?_, ?_⟩⟩
    · rw [upd_ne (ne_of_none h2 hq)]; exact h2
    · simp only [PyData.depth, PyData.depthAll]; omega
    · rw [eqv_nil]
      exact o (.bl _) G _ ⟨.of (same_upd hq _), Same.refl _, S.gh.trans (same_upd hq _), fun _ a b => absurd a b, fun n => n⟩ .bl
  · exact o.elim
theorem ve_neO (i : Nat) {x : Str} {px lp : Pos} (C : Cv X T EX B) (hN : X.N[i]? = some x := by rfl) (hv : Vis X.env.scope x := by first | exact Or.inl rfl | exact Or.inr (Or.inl rfl) | exact Or.inr (Or.inr rfl)) (hd : (x == ("__debug__" : Str)) = false := by decide) (hcd : (x == ("__classdict__" : Str)) = false := by decide) :
    VE X T EX B (.Compare (.Name x px) [.NotEq] [.List [] lp] pos) (vNilO true i) := pe_weak (pe_cmpR (op_neQ C.un) (pe_var hN hv hd hcd) (pe_lst pa_nil) (nomark _)) fun σ H Q q => by
  obtain ⟨G, env, S, o⟩ := q
  exact nil_prim .NotEq (op_neQ C.un) S o
theorem ve_eqO (i : Nat) {x : Str} {px lp : Pos} (C : Cv X T EX B) (hN : X.N[i]? = some x := by rfl) (hv : Vis X.env.scope x := by first | exact Or.inl rfl | exact Or.inr (Or.inl rfl) | exact Or.inr (Or.inr rfl)) (hd : (x == ("__debug__" : Str)) = false := by decide) (hcd : (x == ("__classdict__" : Str)) = false := by decide) :
    VE X T EX B (.Compare (.Name x px) [.Eq] [.List [] lp] pos) (vNilO false i) := pe_weak (pe_cmpR (op_eqQ C.un) (pe_var hN hv hd hcd) (pe_lst pa_nil) (nomark _)) fun σ H Q q => by
  obtain ⟨G, env, S, o⟩ := q
  exact nil_prim .Eq (op_eqQ C.un) S o
theorem vt_neO (i : Nat) {x : Str} {px lp : Pos} (C : Cv X T EX B) (hN : X.N[i]? = some x := by rfl) (hv : Vis X.env.scope x := by first | exact Or.inl rfl | exact Or.inr (Or.inl rfl) | exact Or.inr (Or.inr rfl)) (hd : (x == ("__debug__" : Str)) = false := by decide) (hcd : (x == ("__classdict__" : Str)) = false := by decide) :
    VT X T EX B (.Compare (.Name x px) [.NotEq] [.List [] lp] pos) (vNilO true i) := pt_weak (pt_cmpR (op_neQ C.un) (pe_var hN hv hd hcd) (pe_lst pa_nil) (nomark _)) fun σ H Q q => by
  obtain ⟨G, env, S, o⟩ := t2v q
  exact nil_prim .NotEq (op_neQ C.un) S o
theorem vt_eqO (i : Nat) {x : Str} {px lp : Pos} (C : Cv X T EX B) (hN : X.N[i]? = some x := by rfl) (hv : Vis X.env.scope x := by first | exact Or.inl rfl | exact Or.inr (Or.inl rfl) | exact Or.inr (Or.inr rfl)) (hd : (x == ("__debug__" : Str)) = false := by decide) (hcd : (x == ("__classdict__" : Str)) = false := by decide) :
    VT X T EX B (.Compare (.Name x px) [.Eq] [.List [] lp] pos) (vNilO false i) := pt_weak (pt_cmpR (op_eqQ C.un) (pe_var hN hv hd hcd) (pe_lst pa_nil) (nomark _)) fun σ H Q q => by
  obtain ⟨G, env, S, o⟩ := t2v q
  exact nil_prim .Eq (op_eqQ C.un) S o
/-- x += e, ints -/
theorem vs_add (i : Nat) {x : Str} {px : Pos} (C : Cv X T EX B) (he : VE X T EX B e f) (hN : X.N[i]? = some x := by rfl) (hx : Loc X.env.scope x := by first | exact .inl rfl | exact .inr rfl) (hf : X.fn x = true ∨ X.env.scope.names.lookup x = some .local := by first | exact .inl rfl | exact .inr rfl) :
    VS X T EX B (.AugAssign (.Name x px) .Add e pos) (sAdd i f) := ps_weak (ps_aug C.nd hN hx he ip_add hf) fun D σ H q => by
  obtain ⟨G, env, S, o⟩ := q
  unfold sAdd at o
  split at o
  · rename_i dx e
    obtain ⟨v, h1, h2⟩ := S.sh i _ e
    refine ⟨v, h1, G, env, S, ?_⟩
    split at o
    · rename_i y ey
      rw [ey]
      intro w G' H' s' dy
      rw [h2.intInv, dy.intInv]
      exact ⟨_, _, rfl, rfl, o G' _ H' s'.gg ((S.step s').setSh .int)⟩
    · rename_i c ey
      rw [ey]; exact fun H' z => o H' (S.st.hh.trans z)
    · exact o.elim
  · exact o.elim
/-! ### several names at once -/
/-- a value as it was made: new lists apart since H0 -/
def ORp (T : Ct) (H0 G H : Hp) (v : V) : SV → Prop
  | .sh d => Dq G v d
  | .ow ds => ∃ p xs, v = .ref p ∧ H0 p = none ∧ G p = none ∧ H p = some (.lst xs) ∧ DqAll G xs ds
  | .ob c fs => ObRp T G v c fs
  | .rg _ => False
theorem ORp.step {H0 : Hp} {v : V} {w : SV} (h : ORp T H0 G H v w) (s : Step G H G1 H1) : ORp T H0 G1 H1 v w := by
  cases w with
  | rg _ => exact h
  | sh d => exact Dq.mono h s.gg
  | ob c fs => exact ObRp.mono h s.gg
  | ow ds =>
    obtain ⟨p, xs, h1, h2, h3, h4, h5⟩ := h
    obtain ⟨h3', h4'⟩ := s.own h3 h4
    exact ⟨p, xs, h1, h2, h3', h4', h5.mono s.gg⟩
theorem out_fzO {w : SV} {P : VK} (hk : ∀ v G' H', Step G H G' H' → ORp T H G' H' v w.fz → P v H') : Out T EX (.val w) G H P := by
  refine Out.fz fun v G' H' s q => hk v G' H' s ?_
  revert q
  generalize w.fz = z
  intro q
  cases z with
  | sh d => exact q
  | ob c fs => exact q
  | ow ds => exact q.elim
  | rg _ => exact q.elim
theorem out_o {w : SV} {P : VK} (hk : ∀ v G' H', Step G H G' H' → ORp T H G' H' v w.fzR → P v H') : Out T EX (.val w) G H P := by
  cases w with
  | sh d => exact fun v G' H' s q => hk v G' H' s q
  | ob c fs => exact fun v G' H' s q => hk v G' H' s q
  | ow ds => exact fun p xs G' H' s n1 n2 ep q => hk (.ref p) G' H' s ⟨p, xs, rfl, n1, n2, ep, q⟩
  | rg r => exact out_fzO hk
/-- a name takes it; fr: no other name owns what is new since H0 -/
theorem Sim.setO {H0 : Hp} {v : V} {w : SV} {i : Nat} (S : Sim T B G env σ H) (h : ORp T H0 G H v w) (hb : SameH B.2 H0) (fr : ∀ (j : Nat) es p, env[j]? = some (some (.ow es)) → σ[j]? = some (some (.ref p)) → H0 p ≠ none)
    (frR : ∀ (j : Nat) r v F, env[j]? = some (some (.rg r)) → σ[j]? = some (some v) → RRp T G H F v r → ∀ a ∈ F, H0 a ≠ none) : Sim T B G (env.set i (some w)) (σ.set i (some v)) H := by
  cases w with
  | rg _ => exact h.elim
  | sh d => exact S.setSh h
  | ob c fs => exact S.setOb h
  | ow ds =>
    obtain ⟨p, xs, rfl, h2, h3, h4, h5⟩ := h
    exact S.setOw (hb.free h2) h3 h4 h5 (fun j es z _ w => fr j es p z w h2) fun j r v F z _ w q m => frR j r v F z w q p m h2
/-- an old thing of one's own has old places -/
theorem frR_old {H0 G0 : Hp} (S : Sim T B G0 env σ H0) (s : Step G0 H0 G H) : ∀ (j : Nat) r v F, env[j]? = some (some (.rg r)) → σ[j]? = some (some v) → RRp T G H F v r → ∀ a ∈ F, H0 a ≠ none := fun j r v F e w q a m z => newR_old S s z e w q m
theorem frR_set {w : SV} {v : V} {i : Nat} {H0 : Hp} (nr : ∀ r, w ≠ .rg r) (h : ∀ (j : Nat) r v F, env[j]? = some (some (.rg r)) → σ[j]? = some (some v) → RRp T G H F v r → ∀ a ∈ F, H0 a ≠ none) : ∀ (j : Nat) r u F, (env.set i (some w))[j]? = some (some (.rg r)) → (σ.set i (some v))[j]? = some (some u) → RRp T G H F u r → ∀ a ∈ F, H0 a ≠ none := fun j r u F e z q => by
  rcases get_set e with ⟨_, y⟩ | ⟨n, y⟩
  · cases y; exact absurd rfl (nr r)
  · rw [List.getElem?_set_ne n] at z; exact h j r u F y z q
theorem ORp.nr {H0 : Hp} {v : V} {w : SV} (h : ORp T H0 G H v w) : ∀ r, w ≠ .rg r := fun r e => by subst e; exact h
theorem fr_old {H0 G0 : Hp} (S : Sim T B G0 env σ H0) : ∀ (j : Nat) es p, env[j]? = some (some (.ow es)) → σ[j]? = some (some (.ref p)) → H0 p ≠ none := fun j es p z w => by
  obtain ⟨p', xs, h1, h2, _⟩ := S.ow j es z
  rw [w] at h1; cases h1
  rw [h2]; exact fun z => nomatch z
/-- behind one new value more -/
theorem fr_new {H0 G0 Ha Ga : Hp} {v : V} {w : SV} {i : Nat} (S : Sim T B G0 env σ H0) (s : Step G0 H0 Ga Ha) (h : ORp T H0 Ga Ha v w) : ∀ (j : Nat) es p, (env.set i (some w))[j]? = some (some (.ow es)) → (σ.set i (some v))[j]? = some (some (.ref p)) → Ha p ≠ none := fun j es p z y => by
  rcases get_set z with ⟨e1, e2⟩ | ⟨e1, e2⟩
  · subst e1
    cases e2
    obtain ⟨p', xs, rfl, h2, h3, h4, h5⟩ := h
    rcases get_set y with ⟨_, e3⟩ | ⟨e3, _⟩
    · cases e3; rw [h4]; exact fun z => nomatch z
    · exact absurd rfl e3
  · rw [List.getElem?_set_ne e1] at y
    obtain ⟨p', xs, h1, h2, _⟩ := S.ow j es e2
    rw [y] at h1; cases h1
    rw [s.hh.at h2 fun z => z]; exact fun z => nomatch z
/-- which of the values stay apart -/
@[simp] def kp (k : Bool) (v : SV) : SV := if k = true then v.fzR else v.fz
theorem out_k {k : Bool} {w : SV} {P : VK} (hk : ∀ v G' H', Step G H G' H' → ORp T H G' H' v (kp k w) → P v H') : Out T EX (.val w) G H P := by
  cases k with
  | true => exact out_o hk
  | false => exact out_fzO hk
@[simp] def sPar2 (i j : Nat) (k1 k2 : Bool) (f g : FE) : FS := fun env => (f env).s fun v => (g env).s fun w => .nx ((env.set i (some (kp k1 v))).set j (some (kp k2 w)))
@[simp] def sPar3 (i j l : Nat) (k1 k2 k3 : Bool) (f g h : FE) : FS := fun env => (f env).s fun v => (g env).s fun w => (h env).s fun u => .nx (((env.set i (some (kp k1 v))).set j (some (kp k2 w))).set l (some (kp k3 u)))
theorem seqK {k : SV → SR} {kb : Bool} (S : Sim T B G env σ H) (h : OutS T EX B ((f env).s k) G D) : rdV T EX B f σ H (fun x H1 => ∃ v G1, Step G H G1 H1 ∧ ORp T H G1 H1 x (kp kb v) ∧ Sim T B G1 env σ H1 ∧ OutS T EX B (k v) G1 D) := by
  refine seqS S h fun v ev o => ?_
  exact out_k (k := kb) fun x G' H' s q => ⟨v, G', s, q, S.step s, o.step s.gg⟩
theorem vs_par2 (i j : Nat) (k1 k2 : Bool) {x y : Str} {px py pt : Pos} {kt k' pt2} (C : Cv X T EX B) (ha : VE X T EX B a f) (hb : VE X T EX B b g) (hi : X.N[i]? = some x := by rfl) (hj : X.N[j]? = some y := by rfl) (hij : i ≠ j := by decide)
    (hx : X.env.scope.names.lookup x = some .local := by rfl) (hy : X.env.scope.names.lookup y = some .local := by rfl) (hs1 : starEach [a, b] X.env = (false, eval a X.env) :: starEach [b] X.env := by rfl) (hs2 : starEach [b] X.env = [(false, eval b X.env)] := by rfl)
    (hw : swappedStores [.Tuple [.Name x px, .Name y py] kt pt] (.Tuple [a, b] k' pt2) X.env = pure (some [x, y]) := by rfl) (hs : swapsWithSole [.Tuple [.Name x px, .Name y py] kt pt] (.Tuple [a, b] k' pt2) pos.line X.env = pure false := by rfl) :
    VS X T EX B (.Assign [.Tuple [.Name x px, .Name y py] kt pt] (.Tuple [a, b] k' pt2) pos) (sPar2 i j k1 k2 f g) := by
  refine ps_weak (ps_par C.calm C.nd hi hj hij hx hy (pa_cons ha (pa_cons hb pa_nil hs2) hs1) hw hs) fun D σ H q => ?_
  obtain ⟨G, env, S, o⟩ := q
  refine rdV_mono (seqK (kb := k1) S o) fun v H1 ⟨dv, G1, s1, q1, S1, o1⟩ => rdV_mono (seqK (kb := k2) S1 o1) fun w H2 ⟨dw, G2, s2, q2, S2, o2⟩ => ⟨v, w, rfl, ?_⟩
  exact o2 G2 _ H2 (Same.refl _) ((S2.setO (q1.step s2) S.st.hh (fr_old S) (frR_old S (s1.trans s2))).setO q2 (S.st.hh.trans s1.hh) (fr_new S s1 q1) (frR_set q1.nr (frR_old S1 s2)))
theorem fr_new2 {H0 G0 Ha Ga Hb Gb : Hp} {v v2 : V} {w w2 : SV} {i j : Nat} (S : Sim T B G0 env σ H0) (s : Step G0 H0 Ga Ha) (h : ORp T H0 Ga Ha v w) (s2 : Step Ga Ha Gb Hb) (h2 : ORp T Ha Gb Hb v2 w2) : ∀ (l : Nat) es p, ((env.set i (some w)).set j (some w2))[l]? = some (some (.ow es)) → ((σ.set i (some v)).set j (some v2))[l]? = some (some (.ref p)) → Hb p ≠ none := fun l es p z y => by
  rcases get_set z with ⟨e1, e2⟩ | ⟨e1, e2⟩
  · subst e1
    cases e2
    obtain ⟨p', xs, rfl, q2, q3, q4, q5⟩ := h2
    rcases get_set y with ⟨_, e3⟩ | ⟨e3, _⟩
    · cases e3; rw [q4]; exact fun z => nomatch z
    · exact absurd rfl e3
  · rw [List.getElem?_set_ne e1] at y
    have := fr_new S s h l es p e2 y
    intro z
    exact this (SameH.free s2.hh z)
theorem vs_par3 (i j l : Nat) (k1 k2 k3 : Bool) {x y z : Str} {px py pz pt : Pos} {kt k' pt2} (C : Cv X T EX B) (ha : VE X T EX B a f) (hb : VE X T EX B b g) (hc : VE X T EX B c h) (hi : X.N[i]? = some x := by rfl) (hj : X.N[j]? = some y := by rfl) (hl : X.N[l]? = some z := by rfl) (hij : i ≠ j := by decide) (hil : i ≠ l := by decide) (hjl : j ≠ l := by decide)
    (hx : X.env.scope.names.lookup x = some .local := by rfl) (hy : X.env.scope.names.lookup y = some .local := by rfl) (hz : X.env.scope.names.lookup z = some .local := by rfl) (hs1 : starEach [a, b, c] X.env = (false, eval a X.env) :: starEach [b, c] X.env := by rfl) (hs2 : starEach [b, c] X.env = (false, eval b X.env) :: starEach [c] X.env := by rfl) (hs3 : starEach [c] X.env = [(false, eval c X.env)] := by rfl)
    (hw : swappedStores [.Tuple [.Name x px, .Name y py, .Name z pz] kt pt] (.Tuple [a, b, c] k' pt2) X.env = pure (some [x, y, z]) := by rfl) (hs : swapsWithSole [.Tuple [.Name x px, .Name y py, .Name z pz] kt pt] (.Tuple [a, b, c] k' pt2) pos.line X.env = pure false := by rfl) :
    VS X T EX B (.Assign [.Tuple [.Name x px, .Name y py, .Name z pz] kt pt] (.Tuple [a, b, c] k' pt2) pos) (sPar3 i j l k1 k2 k3 f g h) := by
  refine ps_weak (ps_par3 C.calm C.nd hi hj hl hij hil hjl hx hy hz (pa_cons ha (pa_cons hb (pa_cons hc pa_nil hs3) hs2) hs1) hw hs) fun D σ H q => ?_
  obtain ⟨G, env, S, o⟩ := q
  refine rdV_mono (seqK (kb := k1) S o) fun v H1 ⟨dv, G1, s1, q1, S1, o1⟩ => rdV_mono (seqK (kb := k2) S1 o1) fun w H2 ⟨dw, G2, s2, q2, S2, o2⟩ => rdV_mono (seqK (kb := k3) S2 o2) fun u H3 ⟨du, G3, s3, q3, S3, o3⟩ => ⟨v, w, u, rfl, ?_⟩
  have a1 := S3.setO (i := i) ((q1.step s2).step s3) S.st.hh (fr_old S) (frR_old S ((s1.trans s2).trans s3))
  have a2 := a1.setO (i := j) (q2.step s3) (S.st.hh.trans s1.hh) (fr_new S s1 q1) (frR_set q1.nr (frR_old S1 (s2.trans s3)))
  exact o3 G3 _ H3 (Same.refl _) (a2.setO (i := l) q3 ((S.st.hh.trans s1.hh).trans s2.hh) (fr_new2 S s1 q1 s2 q2) (frR_set q2.nr (frR_set q1.nr (frR_old S2 s3))))
/-- a, b = e by a target (a tuple that is made, or comes) -/
@[simp] def sUnp (t : Tg) (f : FE) : FS := fun env => (f env).s fun v => match v with
  | .sh d => (match t d env with
    | some e => .nx e
    | none => .stuck)
  | _ => .stuck
theorem vs_unp {gt : TG} {is : List Nat} {tt : Tg} (he : VE X T EX B e f) (hr : TgRun T B gt is tt) (hg : PG X tg gt) (hs : swapsWithSole [tg] e pos.line X.env = pure false := by rfl) (hw : swappedStores [tg] e X.env = pure none := by rfl) (h1 : (assignEach [tg] X.env).map (fun x => x.2) = [assign tg X.env] := by rfl) :
    VS X T EX B (.Assign [tg] e pos) (sUnp tt f) := ps_weak (ps_asg he hg hs hw h1) fun D σ H q => by
  obtain ⟨G, env, S, o⟩ := q
  refine seqS S o fun v _ o => ?_
  cases v with
  | ow _ => exact o.elim
  | ob _ _ => exact o.elim
  | rg _ => exact o.elim
  | sh d =>
    dsimp only at o
    split at o
    · rename_i e' ee
      intro x G' H' s q
      refine hr (S.step s) q ee fun σ' S' _ => o G' σ' H' s.gg S'
    · exact o.elim
/-! ### an error is raised -/
@[simp] def sRaise (c : Str) : FS := fun _ => .err c
theorem vs_raise {x m : Str} {j : Nat} {C : Addr} {bmB : List Value} {Bn newId initId : String} {p1 p3 : Pos} (hc : X.calm = true) (tk : Takes X (fun cls d _ H => EX cls d H)) (F : ExcBaseFacts Bn newId initId bmB) (q : PySem.W.excIn X.K C bmB newId = true) (gC : X.mg x = some (.ref C)) (kC : PySem.W.keepIn X.K (.ref C) = true) (r : Raises X (.ref C)) (hg : Gl X x) (ec : T.er x = C)
    (hdb : (x == ("__debug__" : Str)) = false := by decide) : VS X T EX B (.Raise (some (.Call (.Name x p1) [.Constant (.str m) j p2] [] p3)) none pos) (sRaise x) := by
  refine ps_weak (ps_raise hc tk (pmk_own F q gC kC r hg hdb)) fun D σ H q => ?_
  obtain ⟨G, env, S, o⟩ := q
  have z := o H S.st.hh
  rw [ec] at z
  exact z
end
/-! ### a def keeps its promise -/
@[simp] def runB (n : Nat) (s : FS) (as : List SV) : R := match s (as.map some ++ List.replicate (n - as.length) none) with
  | .rt v => .val v
  | .nx _ => .val (.sh .none)
  | .err c => .err c
  | .stuck => .stuck
section
variable {P : Program} {w : World} {K : PySem.W.Frag} {mg : Str → Option Value} {base : Heap} {T : Ct}
theorem sim_start {G H : Hp} {vs : List V} {as : List SV} (n : Nat) (gh : Same G H) (nb : NoMem G) (mo : MeO T H) (r : VRpAll T G vs as) (N : List Str) (hN : N.length = n) : Sim T (G, H) G (as.map some ++ List.replicate (n - as.length) none) (start N vs) H := by
  have hl := vrp_len r
  have key : ∀ (i : Nat) (a : SV), (as.map some ++ List.replicate (n - as.length) none)[i]? = some (some a) → ∃ v, (start N vs)[i]? = some (some v) ∧ VRp T G v a := by
    intro i a h
    have hi : i < as.length := by
      by_cases hi : i < as.length
      · exact hi
      · rw [List.getElem?_append_right (by rw [List.length_map]; omega)] at h
        obtain ⟨_, h2⟩ := List.getElem?_eq_some_iff.mp h
        rw [List.getElem_replicate] at h2
        cases h2
    rw [List.getElem?_append_left (by rw [List.length_map]; exact hi), List.getElem?_map] at h
    obtain ⟨a', h1, h2⟩ := Option.map_eq_some_iff.mp h
    cases h2
    have : ∀ {vs : List V} {as : List SV} {i : Nat} {a : SV}, VRpAll T G vs as → as[i]? = some a → ∃ v, vs[i]? = some v ∧ VRp T G v a := by
      intro vs as i a r h
      induction r generalizing i with
      | nil => simp at h
      | cons x t ih =>
        cases i with
        | zero => simp at h; subst h; exact ⟨_, rfl, x⟩
        | succ i => exact ih (by simpa using h)
    obtain ⟨v, h3, h4⟩ := this r h1
    refine ⟨v, ?_, h4⟩
    unfold L2.start
    rw [List.getElem?_append_left (by rw [List.length_map, hl]; exact hi), List.getElem?_map, h3]
    rfl
  refine ⟨Step.refl gh, ⟨nb, mo.2⟩, mo.1, ?_, fun i d h => key i _ h, fun i c fs h => key i _ h, fun i ds h => ?_, fun i j ds es p h _ _ _ => ?_, fun i r h => ?_⟩
  · unfold L2.start
    simp only [List.length_append, List.length_map, List.length_replicate]
    omega
  · obtain ⟨v, _, z⟩ := key i _ h
    exact z.elim
  · obtain ⟨v, _, z⟩ := key i _ h
    exact z.elim
  · obtain ⟨v, _, z⟩ := key i _ h
    exact z.elim
/-- a body's context -/
theorem fn_ok {x qual : Str} {st : Stmt} {f : Addr} {fd : FuncData} {N ps : List Str} {k : Nat} {s : FS} (F : Fun K x qual st f fd) (S : FnScope N ps (defScope st))
    (hb : ∀ (cdv : Value) (A : Around) (outer : List Env) (s0 : Shared) (H : Hp) (E : XK) (B : Hp × Hp), Room k (A.deeper (PyProof.Rows.envOfC qual (defScope st) s0.heap.objs.size f cdv)) →
      Cv (cxOf (L2.CX P w) P w K mg base N qual (defScope st) f cdv A outer s0 H E) T E B →
      PassesOwn (model P w) (A.deeper (PyProof.Rows.envOfC qual (defScope st) s0.heap.objs.size f cdv)) (PyProof.Rows.envOfC qual (defScope st) s0.heap.objs.size f cdv) (cxOf (L2.CX P w) P w K mg base N qual (defScope st) f cdv A outer s0 H E).xe →
      Takes (cxOf (L2.CX P w) P w K mg base N qual (defScope st) f cdv A outer s0 H E) (fun cls d _ H => E cls d H) →
      VSs (cxOf (L2.CX P w) P w K mg base N qual (defScope st) f cdv A outer s0 H E) T E B (defBody st) s) :
    FnGd P w K mg base (L2.CX P w) (k + 1) f fd ps (spV T ps.length (runB N.length s)) := by
  refine gd_mk F S (fun vs H Q E h => ?_) (fun cdv A outer s0 H vs Q E hq hr h => ?_)
  · obtain ⟨G, as, gh, _, _, r, hl, _⟩ := h
    rw [vrp_len r, hl]
  obtain ⟨G, as, gh, nb, mo, r, hl, o⟩ := h
  have tk : Takes (cxOf (L2.CX P w) P w K mg base N qual (defScope st) f cdv A outer s0 H E) (fun cls d _ H => E cls d H) := takes_of rfl rfl rfl rfl
  refine ⟨_, hb cdv A outer s0 H E (G, H) hr ⟨rfl, S.nd, passes_call tk fun _ _ _ _ z => z, ?_, hq⟩ (passes_of rfl) tk, G, _, sim_start N.length gh nb mo r N rfl, ?_⟩
  · have := hr.un
    show (A.deeper (PyProof.Rows.envOfC qual (defScope st) s0.heap.objs.size f cdv)).units + 150 < cLine
    omega
  · unfold runB at o
    revert o
    cases s (as.map some ++ List.replicate (N.length - as.length) none) with
    | nx e => exact fun o G' σ' H' sg S' => o .non G' H' S'.st .non
    | rt v => exact fun o => o
    | err c => exact fun o => o
    | stuck => exact fun o => o
end
end VL
namespace VL
open PySem L2
/-! ### the program's top -/
/-- a class's address by its name -/
def adOf (mg : Str → Option Value) (x : Str) : Addr := match mg x with
  | some (.ref C) => C
  | _ => 0
theorem adOf_eq {mg : Str → Option Value} {x : Str} {C : Addr} (h : mg x = some (.ref C)) : adOf mg x = C := by
  unfold adOf; rw [h]
/-- the classes of this program: Leans, Slants, Leaned; the errors by their names -/
def clsName : Nat → Str
  | 0 => "Leans"
  | 1 => "Slants"
  | _ => "Leaned"
def clsFlds : Nat → List Str
  | 0 => []
  | 1 => ["way"]
  | _ => ["heap", "ways"]
def ctOf (mg : Str → Option Value) : Ct := ⟨fun c => adOf mg (clsName c), clsFlds, adOf mg, 0, none, [], fun _ => 0, fun _ => none⟩
/-- a def of the text, its name, how its arguments bind -/
def Df (K : PySem.W.Frag) (mg : Str → Option Value) (x q : Str) (st : Stmt) (ps : List Str) : Prop := ∃ f fd, Fun K q q st f fd ∧ mg x = some (.ref f) ∧ Binds K fd ps []
def Fn (P : Program) (w : World) (K : PySem.W.Frag) (mg : Str → Option Value) (base : Heap) (T : Ct) (k : Nat) (x : Str) (n : Nat) (m : List SV → R) : Prop :=
  ∃ f fd ps, FnGd P w K mg base (L2.CX P w) k f fd ps (spV T n m) ∧ mg x = some (.ref f) ∧ PySem.W.keepIn K (.ref f) = true ∧ Binds K fd ps []
abbrev veMro : List Value := [.type "ValueError", .type "Exception", .type "BaseException", .type "object"]
structure Er (K : PySem.W.Frag) (mg : Str → Option Value) (T : Ct) (x : Str) : Prop where
  ex : ∃ C, mg x = some (.ref C) ∧ T.er x = C ∧ PySem.W.excIn K C veMro "ValueError.__new__" = true ∧ PySem.W.keepIn K (.ref C) = true ∧ PySem.W.subIn K (.ref C) (.type "BaseException") = some true ∧ PySem.W.typeIn K (.ref C) = some (.type "type")
/-- a body in its context -/
def Bd (P : Program) (w : World) (K : PySem.W.Frag) (mg : Str → Option Value) (base : Heap) (T : Ct) (k : Nat) (N : List Str) (q : Str) (st : Stmt) (s : FS) : Prop :=
  ∀ (f : Addr) (cdv : Value) (A : Around) (outer : List Env) (s0 : Shared) (H : Hp) (E : XK) (B : Hp × Hp), Room k (A.deeper (PyProof.Rows.envOfC q (defScope st) s0.heap.objs.size f cdv)) →
      Cv (cxOf (L2.CX P w) P w K mg base N q (defScope st) f cdv A outer s0 H E) T E B →
      PassesOwn (model P w) (A.deeper (PyProof.Rows.envOfC q (defScope st) s0.heap.objs.size f cdv)) (PyProof.Rows.envOfC q (defScope st) s0.heap.objs.size f cdv) (cxOf (L2.CX P w) P w K mg base N q (defScope st) f cdv A outer s0 H E).xe →
      Takes (cxOf (L2.CX P w) P w K mg base N q (defScope st) f cdv A outer s0 H E) (fun cls d _ H => E cls d H) →
      VSs (cxOf (L2.CX P w) P w K mg base N q (defScope st) f cdv A outer s0 H E) T E B (defBody st) s
/-- turns of a while -/
def WF : Nat := 300
section
variable {P : Program} {w : World} {K : PySem.W.Frag} {mg : Str → Option Value} {base : Heap} {T : Ct}
theorem fn_mk {x q : Str} {st : Stmt} {N ps : List Str} {k : Nat} {s : FS} (d : Df K mg x q st ps) (S : FnScope N ps (defScope st)) (hb : Bd P w K mg base T k N q st s) : Fn P w K mg base T (k + 1) x ps.length (runB N.length s) := by
  obtain ⟨f, fd, F, hm, hbi⟩ := d
  exact ⟨f, fd, ps, fn_ok F S fun cdv A outer s0 H E B hr C po tk => hb f cdv A outer s0 H E B hr C po tk, hm, F.kp, hbi⟩
theorem fn_zero {x q : Str} {st : Stmt} {ps : List Str} {n : Nat} {m : List SV → R} (d : Df K mg x q st ps) (h : m = fun _ => .stuck) : Fn P w K mg base T 0 x n m := by
  obtain ⟨f, fd, F, hm, hbi⟩ := d
  subst h
  have no : ∀ vs H Q E, ¬ spV T n (fun _ => .stuck) vs H Q E := fun vs H Q E ⟨_, _, _, _, _, _, _, o⟩ => o
  exact ⟨f, fd, ps, ⟨fun vs H Q E h => absurd h (no vs H Q E), fun A outer s H args us vs Q E _ _ _ _ _ h => absurd h (no vs H Q E)⟩, hm, F.kp, hbi⟩
end
section
variable {X : Cx} {T : Ct} {EX : XK} {B : Hp × Hp} {e : Expr} {es : List Expr} {pos p p2 : Pos} {fs : List FE}
theorem ve_callF {x : Str} {n k : Nat} {m : List SV → R} (F : Fn X.prog X.w X.K X.mg X.base T k x n m) (hr : Room k X.A) (hg : Gl X x)
    (C : Cv X T EX B) (ha : VA X T EX B (e :: es) fs) (hd : (x == ("__debug__" : Str)) = false := by decide) (hs : starEach (e :: es) X.env = (false, eval e X.env) :: starEach es X.env := by rfl) (hpl : ((backTo pos (starEach es X.env)).any fun z => z.1) = false := by rfl) :
    VE X T EX B (.Call (.Name x p) (e :: es) [] pos) (calF n m fs) := by
  obtain ⟨f, fd, ps, F, hm, hk, hb⟩ := F
  exact ve_call F hr hg hm hk hb C ha hd hs hpl
theorem Cv.blk (C : Cv X T EX B) {s : Shared} {H : Hp} {scope : Scope} {cenv : Env} {fp : List Addr} : Cv (X.blk s H scope cenv fp) T E0 B := ⟨C.calm, C.nd, passL, C.un, C.gd⟩
theorem vs_raiseE {x m : Str} {j : Nat} {p1 p3 : Pos} (C : Cv X T EX B) (tk : Takes X (fun cls d _ H => EX cls d H)) (er : Er X.K X.mg T x) (hg : Gl X x) (hdb : (x == ("__debug__" : Str)) = false := by decide) :
    VS X T EX B (.Raise (some (.Call (.Name x p1) [.Constant (.str m) j p2] [] p3)) none pos) (sRaise x) := by
  obtain ⟨D, h1, h2, h3, h4, h5, h6⟩ := er.ex
  exact vs_raise C.calm tk PySem.F.excBase_ValueError h3 h1 h4 (raises_own h5 h6) hg h2 hdb
end
end VL
namespace VL
open PySem L2
/-! ### data without a list within -/
mutual
@[simp] def noList : D → Bool
  | .list _ => false
  | .tuple ds => noLists ds
  | .dict _ => false
  | .none | .bool _ | .int _ | .str _ => true
@[simp] def noLists : List D → Bool
  | [] => true
  | d :: r => noList d && noLists r
end
/-- a heap without one place -/
def hid (G : Hp) (p : Addr) : Hp := fun a => if a = p then none else G a
theorem hid_ne {G : Hp} {p a : Addr} (h : a ≠ p) : hid G p a = G a := if_neg h
theorem hid_same {G : Hp} {p : Addr} : hid G p p = none := if_pos rfl
theorem hid_sqT {G : Hp} {p a : Addr} {xs ys : List V} (h : G p = some (.lst ys)) (s : SqT [] G a xs) : SqT [] (hid G p) a xs := by
  rcases s with (s | ⟨o, s⟩) | ⟨o, its, n, hk, _⟩
  · exact .inl (.inl (by rw [hid_ne (ne_of s h (by intro z; cases z))]; exact s))
  · exact .inl (.inr ⟨o, by rw [hid_ne (ne_of s h (by intro z; cases z))]; exact s⟩)
  · cases hk
mutual
theorem hid_dp {G : Hp} {p : Addr} {ys : List V} (h : G p = some (.lst ys)) : ∀ (d : D) (v : V), noList d = true → Dp [] G v d → Dp [] (hid G p) v d
  | .none, _, _, q => by cases q; exact .non
  | .bool b, _, _, q => by cases q; exact .bl b
  | .int i, _, _, q => by cases q; exact .int i
  | .str x, _, _, q => by cases q; exact .str x
  | .list _, _, n, _ => by simp only [noList] at n; cases n
  | .dict _, _, n, _ => by simp only [noList] at n; cases n
  | .tuple ds, _, n, q => by
    cases q with
    | tup s a =>
      simp only [noList] at n
      exact .tup (hid_sqT h s) (hid_dpAll h ds _ n a)
theorem hid_dpAll {G : Hp} {p : Addr} {ys : List V} (h : G p = some (.lst ys)) : ∀ (ds : List D) (vs : List V), noLists ds = true → DpAll [] G vs ds → DpAll [] (hid G p) vs ds
  | [], _, _, q => by cases q; exact .nil
  | d :: r, _, n, q => by
    cases q with
    | cons a b =>
      simp only [noLists, Bool.and_eq_true] at n
      exact .cons (hid_dp h d _ n.1 a) (hid_dpAll h r _ n.2 b)
end
/-! ### .. or too small to hold it -/
mutual
def dsz : D → Nat
  | .list ds => 1 + dszs ds
  | .tuple ds => 1 + dszs ds
  | .dict _ => 1
  | .none | .bool _ | .int _ | .str _ => 1
def dszs : List D → Nat
  | [] => 0
  | d :: r => dsz d + dszs r
end
theorem sqL_one {G : Hp} {a : Addr} {xs ys : List V} (h : SqL [] G a xs) (h' : SqL [] G a ys) : xs = ys := by
  rcases h with (h | ⟨o, h⟩) | ⟨o, its, n, hk, _⟩
  · rcases h' with (h' | ⟨o', h'⟩) | ⟨o', its', n', hk', _⟩
    · rw [h] at h'; cases h'; rfl
    · rw [h] at h'; cases h'
    · cases hk'
  · rcases h' with (h' | ⟨o', h'⟩) | ⟨o', its', n', hk', _⟩
    · rw [h] at h'; cases h'
    · rw [h] at h'; cases h'; rfl
    · cases hk'
  · cases hk
theorem sqT_one {G : Hp} {a : Addr} {xs ys : List V} (h : SqT [] G a xs) (h' : SqT [] G a ys) : xs = ys := by
  rcases h with (h | ⟨o, h⟩) | ⟨o, its, n, hk, _⟩
  · rcases h' with (h' | ⟨o', h'⟩) | ⟨o', its', n', hk', _⟩
    · rw [h] at h'; cases h'; rfl
    · rw [h] at h'; cases h'
    · cases hk'
  · rcases h' with (h' | ⟨o', h'⟩) | ⟨o', its', n', hk', _⟩
    · rw [h] at h'; cases h'
    · rw [h] at h'; cases h'; rfl
    · cases hk'
  · cases hk
theorem sq_two {G : Hp} {a : Addr} {xs ys : List V} (h : SqL [] G a xs) (h' : SqT [] G a ys) : False := by
  rcases h with (h | ⟨o, h⟩) | ⟨o, its, n, hk, _⟩
  · rcases h' with (h' | ⟨o', h'⟩) | ⟨o', its', n', hk', _⟩
    · rw [h] at h'; cases h'
    · rw [h] at h'; cases h'
    · cases hk'
  · rcases h' with (h' | ⟨o', h'⟩) | ⟨o', its', n', hk', _⟩
    · rw [h] at h'; cases h'
    · rw [h] at h'; cases h'
    · cases hk'
  · cases hk
mutual
theorem dp_one {G : Hp} : ∀ (d e : D) (v : V), Dp [] G v d → Dp [] G v e → d = e
  | .none, _, _, h, h' => by cases h; cases h'; rfl
  | .bool _, _, _, h, h' => by cases h; cases h'; rfl
  | .int _, _, _, h, h' => by cases h; cases h'; rfl
  | .str _, _, _, h, h' => by cases h; cases h'; rfl
  | .dict _, _, _, h, _ => by cases h
  | .list ds, e, _, h, h' => by
    cases h with
    | lst s a =>
      cases h' with
      | lst s' a' =>
        have := sqL_one s s'
        subst this
        rw [dpAll_one ds _ _ a a']
      | tup s' a' => exact (sq_two s s').elim
  | .tuple ds, e, _, h, h' => by
    cases h with
    | tup s a =>
      cases h' with
      | tup s' a' =>
        have := sqT_one s s'
        subst this
        rw [dpAll_one ds _ _ a a']
      | lst s' a' => exact (sq_two s' s).elim
theorem dpAll_one {G : Hp} : ∀ (ds es : List D) (vs : List V), DpAll [] G vs ds → DpAll [] G vs es → ds = es
  | [], _, _, h, h' => by cases h; cases h'; rfl
  | d :: r, _, _, h, h' => by
    cases h with
    | cons a b =>
      cases h' with
      | cons a' b' => rw [dp_one d _ _ a a', dpAll_one r _ _ b b']
end
mutual
theorem hid_dz {G : Hp} {p : Addr} {ys : List V} {es : List D} (h : G p = some (.lst ys)) (hy : DpAll [] G ys es) : ∀ (d : D) (v : V), dsz d < 1 + dszs es → Dp [] G v d → Dp [] (hid G p) v d
  | .none, _, _, q => by cases q; exact .non
  | .bool b, _, _, q => by cases q; exact .bl b
  | .int i, _, _, q => by cases q; exact .int i
  | .str x, _, _, q => by cases q; exact .str x
  | .dict _, _, _, q => by cases q
  | .tuple ds, _, n, q => by
    cases q with
    | tup s a =>
      simp only [dsz] at n
      exact .tup (hid_sqT h s) (hid_dzAll h hy ds _ (by omega) a)
  | .list ds, _, n, q => by
    cases q with
    | lst s a =>
      rename_i b xs
      simp only [dsz] at n
      have ne : b ≠ p := fun z => by
        subst z
        have e := sqL_one s (SqL.of h)
        subst e
        rw [dpAll_one _ _ _ a hy] at n
        omega
      refine .lst ?_ (hid_dzAll h hy ds _ (by omega) a)
      rcases s with (s | ⟨o, s⟩) | ⟨o, its, n, hk, _⟩
      · exact .inl (.inl (by rw [hid_ne ne]; exact s))
      · exact .inl (.inr ⟨o, by rw [hid_ne ne]; exact s⟩)
      · cases hk
theorem hid_dzAll {G : Hp} {p : Addr} {ys : List V} {es : List D} (h : G p = some (.lst ys)) (hy : DpAll [] G ys es) : ∀ (ds : List D) (vs : List V), dszs ds < 1 + dszs es → DpAll [] G vs ds → DpAll [] (hid G p) vs ds
  | [], _, _, q => by cases q; exact .nil
  | d :: r, _, n, q => by
    cases q with
    | cons a b =>
      simp only [dszs] at n
      exact .cons (hid_dz h hy d _ (by omega) a) (hid_dzAll h hy r _ (by omega) b)
end
/-- .. each of them is -/
def allSm (es ds : List D) : Bool := ds.all fun d => decide (dsz d < 1 + dszs es)
theorem hid_dzEach {G : Hp} {p : Addr} {ys : List V} {es : List D} (h : G p = some (.lst ys)) (hy : DpAll [] G ys es) : ∀ (ds : List D) (vs : List V), allSm es ds = true → DpAll [] G vs ds → DpAll [] (hid G p) vs ds
  | [], _, _, q => by cases q; exact .nil
  | d :: r, _, n, q => by
    cases q with
    | cons a b =>
      simp only [allSm, List.all_cons, Bool.and_eq_true, decide_eq_true_eq] at n
      exact .cons (hid_dz h hy d _ n.1 a) (hid_dzEach h hy r _ n.2 b)
/-! ### parts that are never changed -/
mutual
/-- no list within them -/
@[simp] def RD.nl : RD → Bool
  | .dat d => noList d
  | .lst rs => RD.nls rs
  | .tup rs => RD.nls rs
  | .ins _ rs => RD.nls rs
  | .jk => true
  | .dic _ => false
@[simp] def RD.nls : List RD → Bool
  | [] => true
  | r :: rs => RD.nl r && RD.nls rs
end
mutual
/-- no tuple of one's own -/
@[simp] def RD.nt : RD → Bool
  | .dat _ => true
  | .lst rs => RD.nts rs
  | .tup _ => false
  | .ins _ rs => RD.nts rs
  | .jk => true
  | .dic _ => false
@[simp] def RD.nts : List RD → Bool
  | [] => true
  | r :: rs => RD.nt r && RD.nts rs
end
mutual
theorem RRp.leaf {T : Ct} {G G2 H : Hp} (k : ∀ d v, noList d = true → Dq G v d → Dq G2 v d) : ∀ (r : RD) (S : List Addr) (v : V), RRp T G H S v r → r.nl = true → RRp T G2 H S v r
  | .dat d, _, _, .dat h, n => .dat (k d _ (by simpa using n) h)
  | .jk, _, _, .jk, _ => .jk
  | .lst rs, _, _, .lst h a, n => .lst h (RRpAll.leaf k rs _ _ a (by simpa using n))
  | .tup rs, _, _, .tup h a, n => .tup h (RRpAll.leaf k rs _ _ a (by simpa using n))
  | .ins c rs, _, _, .ins h h2 l a, n => .ins h h2 l (RRpAll.leaf k rs _ _ a (by simpa using n))
  | .dic _, _, _, _, n => by simp only [RD.nl] at n; cases n
theorem RRpAll.leaf {T : Ct} {G G2 H : Hp} (k : ∀ d v, noList d = true → Dq G v d → Dq G2 v d) : ∀ (rs : List RD) (S : List Addr) (vs : List V), RRpAll T G H S vs rs → RD.nls rs = true → RRpAll T G2 H S vs rs
  | [], _, _, .nil, _ => .nil
  | r :: rs, _, _, .cons h a, n => by
    simp only [RD.nls, Bool.and_eq_true] at n
    exact .cons (RRp.leaf k r _ _ h n.1) (RRpAll.leaf k rs _ _ a n.2)
end
def noTup : HO → Prop
  | .tup _ => False
  | .frz _ _ => False
  | _ => True
mutual
theorem RRp.nots {T : Ct} {G H : Hp} : ∀ (r : RD) (S : List Addr) (v : V), RRp T G H S v r → r.nt = true → ∀ a ∈ S, ∃ o, H a = some o ∧ noTup o
  | .dat _, _, _, .dat _, _, a, m => absurd m List.not_mem_nil
  | .jk, _, _, .jk, _, a, m => absurd m List.not_mem_nil
  | .lst rs, _, _, .lst h q, n, a, m => by
    rcases List.mem_cons.mp m with rfl | m
    · exact ⟨_, h, trivial⟩
    · exact RRpAll.nots rs _ _ q (by simpa using n) a m
  | .tup rs, _, _, _, n, _, _ => by simp only [RD.nt] at n; cases n
  | .dic rs, _, _, _, n, _, _ => by simp only [RD.nt] at n; cases n
  | .ins c rs, _, _, .ins h h2 l q, n, a, m => by
    rcases List.mem_cons.mp m with rfl | m
    · exact ⟨_, h, trivial⟩
    rcases List.mem_cons.mp m with rfl | m
    · exact ⟨_, h2, trivial⟩
    · exact RRpAll.nots rs _ _ q (by simpa using n) a m
theorem RRpAll.nots {T : Ct} {G H : Hp} : ∀ (rs : List RD) (S : List Addr) (vs : List V), RRpAll T G H S vs rs → RD.nts rs = true → ∀ a ∈ S, ∃ o, H a = some o ∧ noTup o
  | [], _, _, .nil, _, a, m => absurd m List.not_mem_nil
  | r :: rs, _, _, .cons h q, n, a, m => by
    simp only [RD.nts, Bool.and_eq_true] at n
    rcases List.mem_append.mp m with m | m
    · exact RRp.nots r _ _ h n.1 a m
    · exact RRpAll.nots rs _ _ q n.2 a m
end
open Classical in
noncomputable def hidS (G : Hp) (S : List Addr) : Hp := fun a => if a ∈ S then none else G a
theorem hidS_in {G : Hp} {S : List Addr} {a : Addr} (h : a ∈ S) : hidS G S a = none := if_pos h
theorem hidS_out {G : Hp} {S : List Addr} {a : Addr} (h : a ∉ S) : hidS G S a = G a := if_neg h
theorem hidS_sqT {G : Hp} {S : List Addr} {a : Addr} {xs : List V} (h : ∀ a ∈ S, ∃ o, G a = some o ∧ noTup o) (s : SqT [] G a xs) : SqT [] (hidS G S) a xs := by
  have ne : ∀ o, G a = some o → ¬ noTup o → a ∉ S := fun o e n m => by
    obtain ⟨o', e', z⟩ := h a m
    rw [e] at e'; cases e'; exact n z
  rcases s with (s | ⟨o, s⟩) | ⟨o, its, n, hk, _⟩
  · exact .inl (.inl (by rw [hidS_out (ne _ s fun z => z)]; exact s))
  · exact .inl (.inr ⟨o, by rw [hidS_out (ne _ s fun z => z)]; exact s⟩)
  · cases hk
mutual
theorem hidS_dp {G : Hp} {S : List Addr} (h : ∀ a ∈ S, ∃ o, G a = some o ∧ noTup o) : ∀ (d : D) (v : V), noList d = true → Dp [] G v d → Dp [] (hidS G S) v d
  | .none, _, _, q => by cases q; exact .non
  | .bool b, _, _, q => by cases q; exact .bl b
  | .int i, _, _, q => by cases q; exact .int i
  | .str x, _, _, q => by cases q; exact .str x
  | .list _, _, n, _ => by simp only [noList] at n; cases n
  | .dict _, _, n, _ => by simp only [noList] at n; cases n
  | .tuple ds, _, n, q => by
    cases q with
    | tup s a =>
      simp only [noList] at n
      exact .tup (hidS_sqT h s) (hidS_dpAll h ds _ n a)
theorem hidS_dpAll {G : Hp} {S : List Addr} (h : ∀ a ∈ S, ∃ o, G a = some o ∧ noTup o) : ∀ (ds : List D) (vs : List V), noLists ds = true → DpAll [] G vs ds → DpAll [] (hidS G S) vs ds
  | [], _, _, q => by cases q; exact .nil
  | d :: r, _, n, q => by
    cases q with
    | cons a b =>
      simp only [noLists, Bool.and_eq_true] at n
      exact .cons (hidS_dp h d _ n.1 a) (hidS_dpAll h r _ n.2 b)
end
theorem flat_dp {G G2 : Hp} : ∀ (d : D) (v : V), flatD d = true → Dp [] G v d → Dp [] G2 v d
  | .none, _, _, q => by cases q; exact .non
  | .bool b, _, _, q => by cases q; exact .bl b
  | .int i, _, _, q => by cases q; exact .int i
  | .str x, _, _, q => by cases q; exact .str x
  | .list _, _, n, _ => by simp only [flatD] at n; cases n
  | .dict _, _, n, _ => by simp only [flatD] at n; cases n
  | .tuple _, _, n, _ => by simp only [flatD] at n; cases n
theorem flat_dpAll {G G2 : Hp} : ∀ (ds : List D) (vs : List V), ds.all flatD = true → DpAll [] G vs ds → DpAll [] G2 vs ds
  | [], _, _, q => by cases q; exact .nil
  | d :: r, _, n, q => by
    cases q with
    | cons a b =>
      simp only [List.all_cons, Bool.and_eq_true] at n
      exact .cons (flat_dp d _ n.1 a) (flat_dpAll r _ n.2 b)
/-! ### an expression that looks at a list of one's own and keeps nothing of it -/
@[simp] def vBor (i : Nat) (f : FE) : FE := fun env => match env[i]? with
  | some (some (.ow ds)) => (match f (env.set i (some (.sh (.list ds)))) with
    | .val (.sh d) => if noList d = true ∨ dsz d < 1 + dszs ds then .val (.sh d) else .stuck
    | .val (.ow es) => if noLists es = true ∨ dszs es < 1 + dszs ds ∨ allSm ds es = true then .val (.ow es) else .stuck
    | .val (.ob _ _) => .stuck
    | .val (.rg r) => if r.nl = true then .val (.rg r) else .stuck
    | .err c => .err c
    | .stuck => .stuck)
  | some (some (.rg r)) => (match r.fzv with
    | some w => (match f (env.set i (some w)) with
      | .val (.sh d) => if flatD d = true ∨ (noList d = true ∧ r.nt = true) then .val (.sh d) else .stuck
      | .val (.ow es) => if es.all flatD = true ∨ (noLists es = true ∧ r.nt = true) then .val (.ow es) else .stuck
      | .val (.ob _ _) => .stuck
      | .val (.rg q) => if q.nl = true ∧ r.nt = true then .val (.rg q) else .stuck
      | .err c => .err c
      | .stuck => .stuck)
    | none => f env)
  | _ => f env
section
variable {X : Cx} {T : Ct} {EX : XK} {B : Hp × Hp} {e a b c o tg : Expr} {es : List Expr} {pos p p2 : Pos} {f g h : FE} {fs : List FE} {G H G1 H1 : Hp} {Q : VK} {st : Stmt} {sts : List Stmt} {s t : FS} {D : Ends} {σ : L2.St} {env : VEnv}
theorem hidS_step {F : List Addr} {G' H' : Hp} (hg : ∀ a ∈ F, G a = none) (k : ∀ a ∈ F, ∃ o, H a = some o ∧ ¬ Mem o) (s : Step (addS G H F) H G' H') : Step G H (hidS G' F) H' ∧ ∀ a ∈ F, G' a = H a := by
  refine ⟨⟨s.hh, fun b u q => ?_, fun b u q => ?_, fun b h1 h2 => ?_, fun n b u q => ?_⟩, fun a m => ?_⟩
  · have ne : b ∉ F := fun m => by rw [hg b m] at q; cases q
    rw [hidS_out ne]
    exact s.gg b u (by rw [addS_out ne]; exact q)
  · have ne : b ∉ F := fun m => by rw [hidS_in m] at q; cases q
    rw [hidS_out ne] at q
    exact s.gh b u q
  · have ne : b ∉ F := fun m => h2 (hidS_in m)
    rw [hidS_out ne] at h2
    exact s.nw b (by rw [addS_out ne]; exact h1) h2
  · have ne : b ∉ F := fun m => by rw [hidS_in m] at q; cases q
    rw [hidS_out ne] at q
    refine s.nm (fun c v r => ?_) b u q
    by_cases m : c ∈ F
    · rw [addS_in m] at r
      obtain ⟨o, e, z⟩ := k c m
      rw [r] at e; cases e; exact z
    · rw [addS_out m] at r; exact n c v r
  · obtain ⟨o, e, z⟩ := k a m
    rw [e]
    exact s.gg a o (by rw [addS_in m]; exact e)
theorem Sim.frzR (S : Sim T B G env σ H) {i : Nat} {r : RD} {w : SV} (hi : env[i]? = some (some (.rg r))) (hw : r.fzv = some w) : ∃ v F, σ[i]? = some (some v) ∧ RgAt T B G H F v r ∧ Sim T B (addS G H F) (env.set i (some w)) σ H := by
  obtain ⟨u, v, F, e1, e2, e3⟩ := S.rg i r hi
  have hl : i < σ.length := S.lt hi
  have hs : σ = σ.set i (some v) := by
    refine List.ext_getElem? fun j => ?_
    by_cases z : i = j
    · subst z; rw [List.getElem?_set_self hl]; exact e1
    · rw [List.getElem?_set_ne z]
  have k := RRp.at r F v e2.rp
  have sg : Same G (addS G H F) := addS_same fun a m => (e2.nw a m).1
  have S1 : Sim T B (addS G H F) (env.set i none) σ H := by
    refine ⟨S.st.frzS e2.nw k, S.nb, S.me, by rw [List.length_set, S.len], fun j d q => ?_, fun j c fs q => ?_, fun j es q => ?_, fun j k es fs a q1 q2 q3 q4 => ?_, fun j r' q => ?_⟩
    · rcases get_set q with ⟨z, y⟩ | ⟨z, y⟩
      · cases y
      · obtain ⟨v, h1, h2⟩ := S.sh j d y; exact ⟨v, h1, h2.mono sg⟩
    · rcases get_set q with ⟨z, y⟩ | ⟨z, y⟩
      · cases y
      · obtain ⟨v, h1, h2⟩ := S.ob j c fs y; exact ⟨v, h1, h2.mono sg⟩
    · rcases get_set q with ⟨z, y⟩ | ⟨z, y⟩
      · cases y
      · obtain ⟨a, ys, h1, h2, h3, h4, h5⟩ := S.ow j es y
        exact ⟨a, ys, h1, h2, by rw [addS_out (e3 j es a y h1)]; exact h3, h4, h5.mono sg⟩
    · rcases get_set q1 with ⟨z, y⟩ | ⟨z1, y1⟩
      · cases y
      rcases get_set q2 with ⟨z, y⟩ | ⟨z2, y2⟩
      · cases y
      exact S.ap j k es fs a y1 y2 q3 q4
    · rcases get_set q with ⟨z, y⟩ | ⟨z, y⟩
      · cases y
      · exact absurd (u j r' y).symm z
  have vr : VRp T (addS G H F) v w := RRp.fzv sg e2.rp (fun a m => addS_in m) hw
  refine ⟨v, F, e1, e2, ?_⟩
  cases w with
  | sh d =>
    have q := S1.setSh (i := i) (v := v) (d := d) vr
    rw [← hs, List.set_set] at q
    exact q
  | ob c fs =>
    have q := S1.setOb (i := i) (v := v) (c := c) (fs := fs) vr
    rw [← hs, List.set_set] at q
    exact q
  | ow _ => exact vr.elim
  | rg _ => exact vr.elim
theorem hid_step {p : Addr} {xs : List V} {G' H' : Hp} (hg : G p = none) (s : Step (upd G p (.lst xs)) H G' H') (hp : H p = some (.lst xs)) : Step G H (hid G' p) H' ∧ G' p = some (.lst xs) := by
  have gp : G' p = some (.lst xs) := s.gg p _ upd_same
  refine ⟨⟨s.hh, fun b u q => ?_, fun b u q => ?_, fun b h1 h2 => ?_, fun n b u q => ?_⟩, gp⟩
  · have ne : b ≠ p := ne_of_none q hg
    rw [hid_ne ne]
    exact s.gg b u (by rw [upd_ne ne]; exact q)
  · have ne : b ≠ p := fun z => by rw [z, hid_same] at q; cases q
    rw [hid_ne ne] at q
    exact s.gh b u q
  · have ne : b ≠ p := fun z => h2 (by rw [z]; exact hid_same)
    rw [hid_ne ne] at h2
    exact s.nw b (by rw [upd_ne ne]; exact h1) h2
  · have ne : b ≠ p := fun z => by rw [z, hid_same] at q; cases q
    rw [hid_ne ne] at q
    refine s.nm (fun c v r => ?_) b u q
    by_cases z : c = p
    · subst z; rw [upd_same] at r; cases r; exact fun z => z
    · rw [upd_ne z] at r; exact n c v r
theorem Sim.frz' (S : Sim T B G env σ H) {i : Nat} {ds : List VL.D} (hi : env[i]? = some (some (.ow ds))) : ∃ p xs, G p = none ∧ H p = some (.lst xs) ∧ DqAll (upd G p (.lst xs)) xs ds ∧ Sim T B (upd G p (.lst xs)) (env.set i (some (.sh (.list ds)))) σ H := by
  obtain ⟨p, xs, e1, e2, e3, e4, e5⟩ := S.ow i ds hi
  have hl : i < σ.length := S.lt hi
  have hs : σ = σ.set i (some (.ref p)) := by
    refine List.ext_getElem? fun j => ?_
    by_cases z : i = j
    · subst z; rw [List.getElem?_set_self hl]; exact e1
    · rw [List.getElem?_set_ne z]
  have sg : Same G (upd G p (.lst xs)) := same_upd e3 _
  have S1 : Sim T B (upd G p (.lst xs)) (env.set i none) σ H := by
    refine ⟨S.st.freeze e4 e3 e2, S.nb, S.me, by rw [List.length_set, S.len], fun j d q => ?_, fun j c fs q => ?_, fun j es q => ?_, fun j k es fs a q1 q2 q3 q4 => ?_, fun j r q => ?_⟩
    · rcases get_set q with ⟨z, y⟩ | ⟨z, y⟩
      · cases y
      · obtain ⟨v, h1, h2⟩ := S.sh j d y; exact ⟨v, h1, h2.mono sg⟩
    · rcases get_set q with ⟨z, y⟩ | ⟨z, y⟩
      · cases y
      · obtain ⟨v, h1, h2⟩ := S.ob j c fs y; exact ⟨v, h1, h2.mono sg⟩
    · rcases get_set q with ⟨z, y⟩ | ⟨z, y⟩
      · cases y
      · obtain ⟨a, ys, h1, h2, h3, h4, h5⟩ := S.ow j es y
        have : a ≠ p := fun e => z (S.ap i j ds es p hi y e1 (e ▸ h1))
        exact ⟨a, ys, h1, h2, by rw [upd_ne this]; exact h3, h4, h5.mono sg⟩
    · rcases get_set q1 with ⟨z, y⟩ | ⟨z1, y1⟩
      · cases y
      rcases get_set q2 with ⟨z, y⟩ | ⟨z2, y2⟩
      · cases y
      exact S.ap j k es fs a y1 y2 q3 q4
    · rcases get_set q with ⟨z, y⟩ | ⟨z, y⟩
      · cases y
      obtain ⟨u, v, F, a, b, c⟩ := S.rg j r y
      have pf : p ∉ F := c i ds p hi e1
      refine ⟨fun j' r' q' => ?_, v, F, a, ⟨RRp.mono sg rfl rfl r F v b.rp fun _ _ => rfl, b.nd, fun d m => ⟨(upd_ne fun (e : d = p) => pf (e ▸ m)).trans (b.nw d m).1, (b.nw d m).2⟩⟩, fun j' ds' p' q1 q2 => ?_⟩
      · rcases get_set q' with ⟨z', y'⟩ | ⟨z', y'⟩
        · cases y'
        · exact u j' r' y'
      · rcases get_set q1 with ⟨z', y'⟩ | ⟨z', y'⟩
        · cases y'
        · exact c j' ds' p' y' q2
  have r := S1.setSh (i := i) (v := .ref p) (d := .list ds) (Dq.lst (SqL.of upd_same) (e5.mono sg))
  rw [← hs, List.set_set] at r
  exact ⟨p, xs, e3, e2, e5.mono sg, r⟩
theorem ve_bor (i : Nat) (h : VE X T EX B e f) : VE X T EX B e (vBor i f) := pe_weak h fun σ H Q q => by
  obtain ⟨G, env, S, o⟩ := q
  unfold vBor at o
  split at o
  rotate_left
  · rename_i r ei
    split at o
    rotate_left
    · exact ⟨G, env, S, o⟩
    rename_i w ew
    obtain ⟨u, F, e1, e2, S'⟩ := S.frzR ei ew
    have k := RRp.at r F u e2.rp
    refine ⟨_, _, S', ?_⟩
    revert o
    cases f (env.set i (some w)) with
    | err c => exact fun o => o
    | stuck => exact fun o => o
    | val w =>
      cases w with
      | ob _ _ => exact fun o => o.elim
      | sh d =>
        intro o v G' H' s' dq
        dsimp only at o
        split at o
        · rename_i n
          obtain ⟨s1, gp⟩ := hidS_step (fun a m => (e2.nw a m).1) k s'
          refine o v _ H' s1 ⟨?_, dq.ok⟩
          rcases n with n | n
          · exact flat_dp d v n dq.dp
          · exact hidS_dp (fun a m => by rw [gp a m]; exact RRp.nots r F u e2.rp n.2 a m) d v n.1 dq.dp
        · exact o.elim
      | ow es =>
        intro o p' ys G' H' s' n1 n2 e4 dq
        dsimp only at o
        split at o
        · rename_i n
          obtain ⟨s1, gp⟩ := hidS_step (fun a m => (e2.nw a m).1) k s'
          have hp : hidS G' F p' = none := by
            by_cases m : p' ∈ F
            · exact hidS_in m
            · rw [hidS_out m]; exact n2
          refine o p' ys _ H' s1 n1 hp e4 ⟨?_, dq.ok⟩
          rcases n with n | n
          · exact flat_dpAll es ys n dq.dp
          · exact hidS_dpAll (fun a m => by rw [gp a m]; exact RRp.nots r F u e2.rp n.2 a m) es ys n.1 dq.dp
        · exact o.elim
      | rg q =>
        intro o v F2 G' H' s' nd nw dq
        dsimp only at o
        split at o
        · rename_i n
          obtain ⟨s1, gp⟩ := hidS_step (fun a m => (e2.nw a m).1) k s'
          refine o v F2 _ H' s1 nd (fun a m => ⟨?_, (nw a m).2⟩) (RRp.leaf (fun d v n' z => ⟨hidS_dp (fun a m => by rw [gp a m]; exact RRp.nots r F u e2.rp n.2 a m) d v n' z.dp, z.ok⟩) q F2 v dq n.1)
          by_cases m' : a ∈ F
          · exact hidS_in m'
          · rw [hidS_out m']; exact (nw a m).1
        · exact o.elim
  · exact ⟨G, env, S, o⟩
  rename_i ds ei
  obtain ⟨p, xs, hg, hp, h5, S'⟩ := S.frz' ei
  refine ⟨_, _, S', ?_⟩
  revert o
  cases f (env.set i (some (.sh (.list ds)))) with
  | err c => exact fun o => o
  | stuck => exact fun o => o
  | val w =>
    cases w with
    | ob _ _ => exact fun o => o.elim
    | sh d =>
      intro o v G' H' s' dq
      dsimp only at o
      split at o
      · rename_i n
        obtain ⟨s1, gp⟩ := hid_step hg s' hp
        exact o v _ H' s1 ⟨n.elim (fun n => hid_dp gp d v n dq.dp) (fun n => hid_dz gp (h5.mono s'.gg).dp d v n dq.dp), dq.ok⟩
      · exact o.elim
    | ow es =>
      intro o p' ys G' H' s' n1 n2 e4 dq
      dsimp only at o
      split at o
      · rename_i n
        obtain ⟨s1, gp⟩ := hid_step hg s' hp
        refine o p' ys _ H' s1 n1 ?_ e4 ⟨n.elim (fun n => hid_dpAll gp es ys n dq.dp) (fun n => n.elim (fun n => hid_dzAll gp (h5.mono s'.gg).dp es ys n dq.dp) (fun n => hid_dzEach gp (h5.mono s'.gg).dp es ys n dq.dp)), dq.ok⟩
        have ne : p' ≠ p := fun z => by rw [z, gp] at n2; cases n2
        rw [hid_ne ne]; exact n2
      · exact o.elim
    | rg q =>
      intro o v F2 G' H' s' nd nw dq
      dsimp only at o
      split at o
      · rename_i n
        obtain ⟨s1, gp⟩ := hid_step hg s' hp
        refine o v F2 _ H' s1 nd (fun a m => ⟨?_, (nw a m).2⟩) (RRp.leaf (fun d v n' z => ⟨hid_dp gp d v n' z.dp, z.ok⟩) q F2 v dq n)
        have ne : a ≠ p := fun z => by
          have := (nw a m).2
          rw [z, hp] at this; cases this
        rw [hid_ne ne]; exact (nw a m).1
      · exact o.elim
theorem vt_bor (i : Nat) (h : VT X T EX B e f) : VT X T EX B e (vBor i f) := pt_weak h fun σ H Q q => by
  obtain ⟨G, env, S, o⟩ := q
  unfold vBor at o
  split at o
  rotate_left
  · rename_i r ei
    split at o
    rotate_left
    · exact ⟨G, env, S, o⟩
    rename_i w ew
    obtain ⟨u, F, e1, e2, S'⟩ := S.frzR ei ew
    have k := RRp.at r F u e2.rp
    refine ⟨_, _, S', ?_⟩
    revert o
    cases f (env.set i (some w)) with
    | err c => exact fun o => o
    | stuck => exact fun o => o
    | val w =>
      cases w with
      | ob _ _ => exact fun o => o.elim
      | ow es => intro o; dsimp only at o; split at o <;> exact o.elim
      | rg q => intro o; dsimp only at o; split at o <;> exact o.elim
      | sh d =>
        intro o
        dsimp only at o
        split at o
        · cases d with
          | bool b =>
            intro G' H' s'
            obtain ⟨s1, gp⟩ := hidS_step (fun a m => (e2.nw a m).1) k s'
            exact o _ H' s1
          | _ => exact o.elim
        · exact o.elim
  · exact ⟨G, env, S, o⟩
  rename_i ds ei
  obtain ⟨p, xs, hg, hp, h5, S'⟩ := S.frz' ei
  refine ⟨_, _, S', ?_⟩
  revert o
  cases f (env.set i (some (.sh (.list ds)))) with
  | err c => exact fun o => o
  | stuck => exact fun o => o
  | val w =>
    cases w with
    | ob _ _ => exact fun o => o.elim
    | ow es => intro o; dsimp only at o; split at o <;> exact o.elim
    | rg q => intro o; dsimp only at o; split at o <;> exact o.elim
    | sh d =>
      intro o
      dsimp only at o
      split at o
      · cases d with
        | bool b =>
          intro G' H' s'
          obtain ⟨s1, gp⟩ := hid_step hg s' hp
          exact o _ H' s1
        | _ => exact o.elim
      · exact o.elim
/-- a test that looks so: as a value -/
@[simp] def sRev (i : Nat) : FS := fun env => match env[i]? with
  | some (some (.ow ds)) => .nx (env.set i (some (.ow ds.reverse)))
  | _ => .stuck
theorem vs_rev (j : Nat) {x : Str} {px apos cpos : Pos} (hN : X.N[j]? = some x := by rfl) (hv : Vis X.env.scope x := by first | exact Or.inl rfl | exact Or.inr (Or.inl rfl) | exact Or.inr (Or.inr rfl)) (hd : (x == ("__debug__" : Str)) = false := by decide) (hcd : (x == ("__classdict__" : Str)) = false := by decide)
    (hline : (apos.endLine == cpos.line) = true := by rfl) : VS X T EX B (.Expr (.Call (.Attribute (.Name x px) "reverse" apos) [] [] cpos) pos) (sRev j) := by
  refine ps_weak (ps_expr (pe_bm0 PySem.F.plainAttrs_list PySem.F.slot_list_reverse PySem.F.type_list_reverse mt_reverse (pe_var hN hv hd hcd) rfl hline) rfl) fun D σ H q => ?_
  obtain ⟨G, env, S, o⟩ := q
  unfold sRev at o
  split at o
  · rename_i ds ei
    obtain ⟨p, xs, h1, h2, h3, h4, h5⟩ := S.ow j ds ei
    exact ⟨.ref p, h1, .inl ⟨rfl, xs, SqL.of h2⟩, p, xs, rfl, rfl, h2, o G _ _ (Same.refl _) (S.write ei h1 h5.reverse)⟩
  · exact o.elim
/-- four names at once -/
@[simp] def tg4 (i j k l : Nat) : Tg := fun d env => match d with
  | .tuple [x, y, z, w] => some ((((env.set i (some (.sh x))).set j (some (.sh y))).set k (some (.sh z))).set l (some (.sh w)))
  | _ => none
theorem tr_4 {K : PySem.W.Frag} {i j l m : Nat} : TgRun T B (gTup K 4 (gCons (gName i) (gCons (gName j) (gCons (gName l) (gCons (gName m) gNil))))) [i, j, l, m] (tg4 i j l m) := by
  intro G env σ H v d env' Q S dq e q
  unfold tg4 at e
  split at e
  · cases e
    obtain ⟨l, xs, rfl, sq, q1⟩ := dq.tupInv
    obtain ⟨v1, vs1, rfl, d1, q2⟩ := q1.inv
    obtain ⟨v2, vs2, rfl, d2, q3⟩ := q2.inv
    obtain ⟨v3, vs3, rfl, d3, q4⟩ := q3.inv
    obtain ⟨v4, vs4, rfl, d4, q5⟩ := q4.inv
    cases q5.inv0
    exact ⟨l, _, rfl, sqT_K (same_seqT S.gh sq), rfl, v1, _, rfl, v2, _, rfl, v3, _, rfl, v4, _, rfl, rfl, q _ ((((S.setSh d1).setSh d2).setSh d3).setSh d4) (SetIn.trans (is := [i, j, _]) (SetIn.trans (is := [i, j]) (SetIn.trans (js := [j]) .one .one) .one) .one)⟩
  · cases e
/-- f() -/
theorem ve_callF0 {x : Str} {k : Nat} {m : List SV → R} (F : Fn X.prog X.w X.K X.mg X.base T k x 0 m) (hr : Room k X.A) (hg : Gl X x) (C : Cv X T EX B) (hd : (x == ("__debug__" : Str)) = false := by decide) :
    VE X T EX B (.Call (.Name x p) [] [] pos) (calF 0 m []) := by
  obtain ⟨f, fd, ps, F, hm, hk, hb⟩ := F
  refine pe_weak (pe_callG0 (E := fun _ => EX) F C.gd hr hg hm hk hb (fun σ pn H s e s' => C.pass pn σ H s e s') hd) fun σ H Q q => ?_
  obtain ⟨G, env, S, o⟩ := q
  exact ⟨G, [], S.gh, S.st.nm S.nb.1, S.mo, .nil, rfl, o⟩
/-- x.pop(k) of one's own, the item kept or not -/
def sPopA (i j : Nat) (g : FE) : FS := fun env => match env[j]? with
  | some (some (.ow ds)) => (match evA [g] env with
    | .val [.sh (.int k)] => (match (if k ≤ 1000000 then ixN ds.length k else none) with
      | some n => (match ds[n]? with
        | some d => .nx ((env.set j (some (.ow (ds.eraseIdx n)))).set i (some (.sh d)))
        | none => .stuck)
      | none => .stuck)
    | .err c => .err c
    | _ => .stuck)
  | _ => .stuck
end
end VL
namespace VL
open PySem L2
/-! ### the end of a law -/
theorem df_mk {K : PySem.W.Frag} {h : Heap} {mg : Str → Option Value} {x q : Str} {st : Stmt} {ps : List Str} {f : Addr} {oc : Value} {od an : Option Addr} {osl : Array (Option Value)} {kV doc pm cdv ct : Value} (X : K.In h) (G : h.Ns mainGlobals mg)
    (a : PySem.W.nsIn K mainGlobals x = some (some (.ref f))) (l : K.lookup f = some ⟨oc, od, .func (PySem.W.fnOf q q (defArgs st) (defBody st) (defScope st) .none kV doc pm an cdv ct), osl⟩) (c : PySem.W.codeIn K cdv q = true) (k : PySem.W.keepIn K (.ref f) = true)
    (hb : ∀ (kV doc pm : Value) (an : Option Addr) (cdv ct : Value) (us : List Value), us.length = ps.length → bindArgs (PySem.W.fnOf q q (defArgs st) (defBody st) (defScope st) .none kV doc pm an cdv ct) ⟨us, []⟩ = pure (ps.zip us)) : Df K mg x q st ps := by
  have F := fun_mk (st := st) l c k
  exact ⟨f, _, F, PySem.W.mg_of X G a, F.binds hb⟩
theorem er_mk {K : PySem.W.Frag} {h : Heap} {mg : Str → Option Value} {x : Str} {C : Addr} (X : K.In h) (G : h.Ns mainGlobals mg) (a : PySem.W.nsIn K mainGlobals x = some (some (.ref C))) (e : PySem.W.excIn K C veMro "ValueError.__new__" = true) (k : PySem.W.keepIn K (.ref C) = true)
    (s : PySem.W.subIn K (.ref C) (.type "BaseException") = some true) (t : PySem.W.typeIn K (.ref C) = some (.type "type")) : Er K mg (ctOf mg) x := ⟨C, PySem.W.mg_of X G a, adOf_eq (PySem.W.mg_of X G a), e, k, s, t⟩
theorem no_mk {K : PySem.W.Frag} {h : Heap} {mg : Str → Option Value} {x : Str} (X : K.In h) (G : h.Ns mainGlobals mg) (z : PySem.W.nsIn K mainGlobals x = some none) : mg x = none := PySem.W.mg_none_of X G z
theorem k_mk {K : PySem.W.Frag} {h : Heap} {mg : Str → Option Value} {x : Str} {i : Int} {tk : Tok} (X : K.In h) (G : h.Ns mainGlobals mg) (z : PySem.W.nsIn K mainGlobals x = some (some (.int i tk))) : ∃ tk, mg x = some (.int i tk) := ⟨tk, PySem.W.mg_of X G z⟩
/-- no list stands in the written part -/
def noLst (K : PySem.W.Frag) : Bool := K.all fun p => match p.2.cls with
  | .type n => n != "list"
  | _ => true
theorem noLst_sq {K : PySem.W.Frag} (h : noLst K = true) {H : Hp} {a : Addr} {xs : List V} (s : SqL K H a xs) : SqL [] H a xs := by
  rcases s with s | ⟨o, its, n, hk, hc, _⟩
  · exact .inl s
  · exfalso
    have : ∀ {K : PySem.W.Frag} {a : Addr} {o : Obj}, K.lookup a = some o → ∃ b, (b, o) ∈ K := by
      intro K
      induction K with
      | nil => intro a o h; cases h
      | cons p r ih =>
        intro a o h
        rw [List.lookup_cons] at h
        split at h
        · cases h; exact ⟨p.1, List.mem_cons_self⟩
        · obtain ⟨b, hb⟩ := ih h; exact ⟨b, List.mem_cons_of_mem _ hb⟩
    obtain ⟨b, hb⟩ := this hk
    have z := List.all_eq_true.mp h _ hb
    simp only [hc] at z
    exact absurd z (by decide)
def spLaw : Sp := fun vs H Q _ => ∃ (a : Addr) (ns : List Int), vs = [.ref a] ∧ ns.length ≤ 63 ∧ (∀ z ∈ ns, Builtin.Int.intBits z ≤ 1048576) ∧ SqL [] H a (ns.map V.int) ∧ ∀ H', Q (.bl true) H'
theorem law_imp {T : Ct} (hT : NoMe T) {m : List SV → R} (h : ∀ ns : List Int, ns.length ≤ 63 → (∀ z ∈ ns, Builtin.Int.intBits z ≤ 1048576) → m [.sh (.list (ns.map .int))] = .val (.sh (.bool true))) : ∀ vs H Q E, spLaw vs H Q E → spV T 1 m vs H Q E := by
  rintro vs H Q E ⟨a, ns, rfl, h1, h2, s, q⟩
  let G : Hp := fun b => if b = a then H a else none
  have ga : G a = H a := if_pos rfl
  have gs : Same G H := fun b o e => by
    by_cases z : b = a
    · subst z; rw [ga] at e; exact e
    · have : G b = none := if_neg z
      rw [this] at e; cases e
  have sg : SqL [] G a (ns.map V.int) := by
    rcases s with (s | ⟨o, s⟩) | ⟨o, its, n, hk, _⟩
    · exact .inl (.inl (by rw [ga]; exact s))
    · exact .inl (.inr ⟨o, by rw [ga]; exact s⟩)
    · cases hk
  have ng : NoMem G := fun b o e m => by
    by_cases z : b = a
    · subst z
      rcases sg with (s | ⟨o', s⟩) | ⟨o', its, n, hk, _⟩
      · rw [e] at s; cases s; exact m
      · rw [e] at s; cases s; exact m
      · cases hk
    · have : G b = none := if_neg z
      rw [this] at e; cases e
  refine ⟨G, [.sh (.list (ns.map .int))], gs, ng, hT.ok, .cons (Dq.lst sg (dq_ints ns)) .nil, rfl, ?_⟩
  rw [h ns h1 h2]
  intro v G' H' _ d
  rw [d.blInv]
  exact q H'
theorem walk {l : PySem.W.OpenLaw} {q : Program} {loose : List Str} {XP : (Str → Option Value) → Heap → Prop} {YP : World → Heap → Prop} {d : DefRec} {K : Params → PySem.W.Frag} {k : Nat} (hr : Room k callerA) (hn : l.most = some 63) (hdf : d.params.defaults = [])
    (hY : ∀ (w : World) (h : Heap), YP w h → (K w.params).In h) (hL : ∀ w : World, noLst (K w.params) = true)
    (F : ∀ (w : World) (mg : Str → Option Value) (fa : Addr) (h : Heap), (K w.params).In h → h.Ns mainGlobals mg → mg d.name = some (.ref fa) →
      ∃ fd : FuncData, (∀ (s : Shared) (u : Value), BindsTo s fd ⟨[u], []⟩ [("_law_script", u)]) ∧ ∀ base : Heap, (K w.params).In base → FnGd l.prog w (K w.params) mg base (L2.CX l.prog w) k fa fd ["_law_script"] spLaw) :
    PySem.W.WalkO q loose XP YP l.row.toRowW d [] (fun f vs => PySem.call f vs) := by
  refine Att.attach_callB hn hdf fun w s0 s1 mg mb fa o pm cd doc a vs ns G Y ho hd hcd hmg hobj hints hlen hbits hg => ?_
  obtain ⟨fd, hb, hF⟩ := F w mg fa _ (hY w _ Y) G.T.g hmg
  exact due_all (hY w _ Y) G.T.g G.T.b G.T.builtins G.T.nolimit hg hobj hints (Nat.le_trans hlen (by decide)) hr hF hb fun H _ hS => ⟨a, ns, rfl, hlen, hbits, noLst_sq (hL w) hS, fun _ => rfl⟩
end VL
namespace VL
open PySem L2
/-! ### try: a call, except the errors of one class: a suite that asks of what class it is -/
@[simp] def noX1 : Option SV → Bool
  | some (.ob c _) => c != 100
  | _ => true
@[simp] def noX (env : VEnv) : Bool := env.all noX1
theorem noX_ob {env : VEnv} (h : noX env = true) {i : Nat} {c : Nat} {fs : List D} (e : env[i]? = some (some (.ob c fs))) : c ≠ 100 := by
  have := List.all_eq_true.mp h _ (List.mem_of_getElem? e)
  simpa using this
theorem ObRp.other {T T' : Ct} {G : Hp} {v : V} {c : Nat} {fs : List D} (hc : c ≠ 100) (h1 : T.ad = T'.ad) (h2 : T.fl = T'.fl) (h3 : T.me = T'.me) (h5 : T.fv = T'.fv) (h : ObRp T G v c fs) : ObRp T' G v c fs := by
  unfold ObRp XoR at *
  rw [if_neg hc] at *
  rw [← h1, ← h2, ← h3, ← h5]; exact h
theorem Sim.other {T T' : Ct} {B : Hp × Hp} {G H : Hp} {env : VEnv} {σ : L2.St} (S : Sim T B G env σ H) (h : noX env = true) (h1 : T.ad = T'.ad) (h2 : T.fl = T'.fl) (h3 : T.me = T'.me) (h4 : T.tb = T'.tb := by rfl) (h5 : T.fv = T'.fv := by rfl) (h6 : T.gc = T'.gc := by rfl) : Sim T' B G env σ H :=
  ⟨S.st, by rw [← h6]; exact S.nb, by unfold MeOk; rw [← h3, ← h4]; exact S.me, S.len, S.sh, fun i c fs e => by
    obtain ⟨v, a, b⟩ := S.ob i c fs e
    exact ⟨v, a, b.other (noX_ob h e) h1 h2 h3 h5⟩, S.ow, S.ap, fun i r e => by
    obtain ⟨u, v, F, a, b, c⟩ := S.rg i r e
    exact ⟨u, v, F, a, ⟨RRp.mono (Same.refl _) h1 h2 r F v b.rp fun _ _ => rfl, b.nd, b.nw⟩, c⟩⟩
@[simp] def sTry (i : Nat) (es : List Str) (n : Nat) (m : List SV → R) (fs : List FE) (hd : Str → FS) : FS := fun env => if noX env = true then (match evA fs env with
    | .val as => if as.length = n then (match m as with
      | .val _ => .nx env
      | .err c => if c ∈ es then (match hd c (env.set i (some (.ob 100 []))) with
        | .nx e => if noX (e.set i none) = true then .nx (e.set i none) else .stuck
        | _ => .stuck) else .stuck
      | .stuck => .stuck) else .stuck
    | _ => .stuck) else .stuck
/-- isinstance(error, d), error of class c -/
@[simp] def vIsE (i : Nat) (c d : Str) : FE := fun env => match env[i]? with
  | some (some (.ob 100 _)) => rb (c == d)
  | _ => .stuck
/-- what the top says of an error c that a clause takes by the name h and asks for the classes ds -/
structure Xc (K : PySem.W.Frag) (mg : Str → Option Value) (T : Ct) (h : Str) (ds : List Str) (c : Str) : Prop where
  ex : ExcC K (T.er c)
  ct : ∃ cH, mg h = some cH ∧ PySem.W.exmOne K (.ref (T.er c)) cH = some true
  is : ∀ d ∈ ds, ∃ C, mg d = some (.ref C) ∧ PySem.W.kitOne K (.ref (T.er c)) (.ref C) = some (c == d)
section
variable {X : Cx} {T : Ct} {EX : XK} {B : Hp × Hp} {e a b c o tg : Expr} {es : List Expr} {pos p p2 : Pos} {f g h : FE} {fs : List FE} {G H G1 H1 : Hp} {Q : VK} {st : Stmt} {sts : List Stmt} {s t : FS} {D : Ends} {σ : L2.St} {env : VEnv}
theorem vs_setN (i : Nat) {x : Str} {pos' : Pos} (nd : X.N.Nodup) (he : VE X T EX B e f) (hi : X.N[i]? = some x := by rfl) (hx : Loc X.env.scope x := by first | exact .inl rfl | exact .inr rfl) (hs : swapsWith e (some (.Name x pos')) pos.line X.env = pure false := by rfl) (hf : X.fn x = true ∨ X.env.scope.names.lookup x = some .local := by first | exact .inl rfl | exact .inr rfl) :
    VS X T EX B (.Assign [.Name x pos'] e pos) (sSet i f) := ps_weak (ps_set nd hi hx he hs hf) fun D σ H q => by
  obtain ⟨G, env, S, o⟩ := q
  exact seqS S o fun v _ o => set_fz S o
theorem ve_isE (i : Nat) {x d cn hn : Str} {ds : List Str} {px p1 : Pos} {oe : Obj} {pn : List (Addr × Obj)} {ad : Addr} (xc : Xc X.K X.mg T hn ds cn) (hz : Zc (.ref (T.er cn)) none oe) (hf : ∃ vs, oe.data = .fields vs) (hd : d ∈ ds)
    (bi : Bt (X.suite ad ((ad, oe) :: pn)) "isinstance") (hg : Gl (X.suite ad ((ad, oe) :: pn)) d) (hN : X.N[i]? = some x := by rfl) (hv : Vis X.env.scope x := by first | exact Or.inl rfl | exact Or.inr (Or.inl rfl) | exact Or.inr (Or.inr rfl)) (hdb : (x == ("__debug__" : Str)) = false := by decide) (hcd : (x == ("__classdict__" : Str)) = false := by decide) (hdd : (d == ("__debug__" : Str)) = false := by decide)
    (hs : starEach [.Name x px, .Name d p1] X.env = (false, eval (.Name x px) X.env) :: starEach [.Name d p1] X.env := by rfl) :
    VE (X.suite ad ((ad, oe) :: pn)) { T with xa := ad } EX B (.Call (.Name "isinstance" p) [.Name x px, .Name d p1] [] pos) (vIsE i cn d) := by
  obtain ⟨C, h1, h2⟩ := xc.is d hd
  refine pe_weak (pe_callB (call_isE xc.ex hz hf) bi.gl bi.mg PyProof.Rows.boot_isinstance (pa_cons (pe_var hN hv hdb hcd) (pa_cons (pe_glob (v := .ref C) hg h1 rfl hdd) pa_nil rfl) hs) (by decide) (by decide) hs rfl) fun σ H Q q => ?_
  obtain ⟨G, env, S, o⟩ := q
  unfold vIsE at o
  split at o
  · rename_i fs' e'
    obtain ⟨v, e1, e2⟩ := S.ob i 100 _ e'
    unfold ObRp at e2
    rw [if_pos rfl] at e2
    subst e2
    refine ⟨_, e1, .ref C, .ref C, _, rfl, fun u r => r, h2, ?_⟩
    exact o.rb S.gh
  · exact o.elim
theorem vs_try (i : Nat) {x n hn : Str} {k q : Nat} {m : List SV → R} {ers ds : List Str} {hd : Str → FS} {np pos' pos1 pos2 : Pos} {b₀ : Stmt} {suite : List Stmt}
    (C : Cv X T EX B) (hs : X.stack = X.env :: X.outer) (hf : X.env.frame = some X.env.locals) (F : Fn X.prog X.w X.K X.mg X.base T k x q m) (hr : Room k X.A) (hg : Gl X x)
    (hgh : Gl X hn) (xc : ∀ c ∈ ers, Xc X.K X.mg T hn ds c) (hc : ∃ cH, X.mg hn = some cH)
    (ha : ∀ pn xe, VA (X.tr pn xe) T E0 B (e :: es) fs)
    (hsu : ∀ (a : Addr) (oe : Obj) (pn : List (Addr × Obj)) (c : Str), c ∈ ers → Zc (.ref (T.er c)) none oe → (∃ vs, oe.data = .fields vs) → VSs (X.suite a ((a, oe) :: pn)) { T with xa := a } E0 B (b₀ :: suite) (hd c))
    (hi : X.N[i]? = some n := by rfl) (hln : X.env.kindOf n = some .local := by rfl) (hdh : (hn == ("__debug__" : Str)) = false := by decide) (hdb : (x == ("__debug__" : Str)) = false := by decide) (hst : starEach (e :: es) X.env = (false, eval e X.env) :: starEach es X.env := by rfl) (hpl : ((backTo pos1 (starEach es X.env)).any fun z => z.1) = false := by rfl)
    (hsw : swapsWith (.Call (.Name x p) (e :: es) [] pos1) none pos2.line X.env = pure false := by rfl) :
    VS X T EX B (.Try [.Expr (.Call (.Name x p) (e :: es) [] pos1) pos2] [.ExceptHandler (some (.Name hn np)) (some n) (b₀ :: suite) pos'] [] [] pos) (sTry i ers q m fs hd) := by
  obtain ⟨cH, hcH⟩ := hc
  obtain ⟨fa, fd, ps, F, hm, hk, hb⟩ := F
  refine ps_weak (ps_try_as (i := i) (c := cH) (tb := fun W D σ H => tCallS (spV T q m) (WE W) (rdA T E0 B fs) σ H fun _ H' => D.nx σ H') (Wout := fun _ _ _ _ => False)
    (ts := fun a cls d D σ H => ∃ c, c ∈ ers ∧ cls = .ref (T.er c) ∧ d = none ∧ rdS { T with xa := a } E0 B (hd c) D σ H) hs hf C.nd hi hln ⟨hgh, hdh, .inl hcH⟩ takes0 (fun W pn xe tk _ => ?_) (fun a oe cls d pn hz hfl => ?_)) fun D σ H w => ?_
  · exact pss_one (ps_weak (ps_expr (pe_callG (X := X.tr pn xe) (E := WE W) F C.gd hr hg hm hk hb (fun σ => passAt tk σ) (ha pn xe) hdb hst hpl) hsw) fun D σ H z => z)
  · refine ⟨fun pins s σ H D I z => ?_⟩
    obtain ⟨c, h1, h2, h3, z⟩ := z
    subst h2 h3
    exact (hsu a oe pn c h1 hz hfl).run pins s σ H D I z
  · obtain ⟨G, env, S, o⟩ := w
    unfold sTry at o
    split at o
    case isFalse => exact o.elim
    rename_i nx0
    refine ⟨G, env, S, ?_⟩
    revert o
    cases evA fs env with
    | err c => exact fun o => o.elim
    | stuck => exact fun o => o.elim
    | val as =>
      intro o vs G' H' st rp
      dsimp only at o
      split at o
      case isFalse => exact o.elim
      rename_i hl
      refine ⟨G', as, st.gh, st.nm (S.st.nm S.nb.1), (S.step st).mo, rp, hl, ?_⟩
      revert o
      cases m as with
      | stuck => exact fun o => o.elim
      | val v => exact fun o => Out.fz fun y G2 H2 s2 _ => o G2 σ H2 (st.trans s2).gg (S.step (st.trans s2))
      | err c =>
        intro o H2 sh
        dsimp only at o
        split at o
        case isFalse => exact o.elim
        rename_i hc
        obtain ⟨cH', h1, h2⟩ := (xc c hc).ct
        rw [hcH] at h1
        cases h1
        refine ⟨true, h2, fun _ a na => ⟨c, hc, rfl, rfl, G', env.set i (some (.ob 100 [])), ?_, ?_⟩, fun z => nomatch z⟩
        · have S1 : Sim T B G' env σ H2 := (S.step st).step ⟨sh, Same.refl _, sh.up st.gh (st.nm (S.st.nm S.nb.1)), fun _ u w => absurd u w, fun n => n⟩
          exact Sim.setOb (S1.other (T' := { T with xa := a }) nx0 rfl rfl rfl) (by unfold ObRp; rw [if_pos rfl])
        · revert o
          cases hd c (env.set i (some (.ob 100 []))) with
          | stuck => exact fun o => o.elim
          | err c => exact fun o => o.elim
          | rt v => exact fun o => o.elim
          | nx e =>
            intro o G3 σ3 H3 sg S3
            dsimp only at o
            split at o
            case isFalse => exact o.elim
            rename_i nx1
            exact o G3 (σ3.set i none) H3 (st.gg.trans sg) (Sim.other (T := { T with xa := a }) S3.setNone nx1 rfl rfl rfl)
end
inductive Xi (K : PySem.W.Frag) (C : Addr) (c : Str) : List Str → Prop
  | nil : Xi K C c []
  | cons {d : Str} {ds : List Str} {D : Addr} (a : PySem.W.nsIn K mainGlobals d = some (some (.ref D))) (e : PySem.W.kitOne K (.ref C) (.ref D) = some (c == d)) (r : Xi K C c ds) : Xi K C c (d :: ds)
theorem xi_nil {K : PySem.W.Frag} {C : Addr} {c : Str} : Xi K C c [] := .nil
theorem xi_cons {K : PySem.W.Frag} {C D : Addr} {c d : Str} {ds : List Str} {b : Bool} (a : PySem.W.nsIn K mainGlobals d = some (some (.ref D))) (e : PySem.W.kitOne K (.ref C) (.ref D) = some b) (hb : (c == d) = b) (r : Xi K C c ds) : Xi K C c (d :: ds) := .cons a (hb ▸ e) r
theorem Xi.get {K : PySem.W.Frag} {h : Heap} {mg : Str → Option Value} {C : Addr} {c : Str} (X : K.In h) (G : h.Ns mainGlobals mg) : ∀ {ds : List Str}, Xi K C c ds → ∀ d ∈ ds, ∃ D, mg d = some (.ref D) ∧ PySem.W.kitOne K (.ref C) (.ref D) = some (c == d)
  | _, .nil, d, m => absurd m List.not_mem_nil
  | _, .cons a e r, d, m => by
    rcases List.mem_cons.mp m with rfl | m
    · exact ⟨_, PySem.W.mg_of X G a, e⟩
    · exact r.get X G d m
theorem xc_mk {K : PySem.W.Frag} {h : Heap} {mg : Str → Option Value} {C CH : Addr} {c hn : Str} {ds : List Str} (X : K.In h) (G : h.Ns mainGlobals mg) (a : PySem.W.nsIn K mainGlobals c = some (some (.ref C))) (ex : ExcC K C)
    (ah : PySem.W.nsIn K mainGlobals hn = some (some (.ref CH))) (hm : PySem.W.exmOne K (.ref C) (.ref CH) = some true) (xi : Xi K C c ds) : Xc K mg (ctOf mg) hn ds c := by
  have e : (ctOf mg).er c = C := adOf_eq (PySem.W.mg_of X G a)
  exact ⟨by rw [e]; exact ex, ⟨_, PySem.W.mg_of X G ah, by rw [e]; exact hm⟩, by rw [e]; exact xi.get X G⟩
theorem xa_nil {Q : Str → Prop} : ∀ c ∈ ([] : List Str), Q c := fun _ m => absurd m List.not_mem_nil
theorem xa_cons {Q : Str → Prop} {a : Str} {r : List Str} (h : Q a) (t : ∀ c ∈ r, Q c) : ∀ c ∈ a :: r, Q c := fun c m => by
  rcases List.mem_cons.mp m with rfl | m
  · exact h
  · exact t c m
end VL
namespace VL
open PySem L2
/-! ### xs.index(y), xs.count(y) of any data -/
section
variable {X : Cx}
def rCountD (K : PySem.W.Frag) : V → List V → Hp → VK → Prop := fun x xs H Q => ∃ (a : Addr) (y : V) (d : PyData) (ds : List PyData), x = V.ref a ∧ xs = [y] ∧ Dp K H (V.ref a) (.list ds) ∧ Dp K H y d ∧
  SeqAt.shaped (.list ds) = true ∧ SeqAt.shaped d = true ∧ Q (.int ((ds.countP fun z => PyData.eqv z d : Nat) : Int)) H
theorem mt_countD (hu : X.A.units + 65 < cLine) : MtR X "list.count" (rCountD X.K) := by
  intro pins s σ H x xs v us Q I rx rxs h
  obtain ⟨a, y, d, ds, rfl, rfl, hl, hy, sl, sd, q⟩ := h
  cases rx
  obtain ⟨uy, rfl, ry⟩ := rxs.one
  obtain ⟨bs, r1⟩ := Dp.reads I d y uy hy ry
  have hxs : PyData.canLayAll0 ds = true := SeqAt.canLay_of_shaped sl
  cases hl with
  | lst hs ha =>
    obtain ⟨its, rv, ⟨⟨cls, dd, data, sls⟩, n, ho, hc, hdn, hdt⟩, hlen⟩ := I.list hs
    simp only at hc hdt
    subst hc hdt
    obtain ⟨as, h4⟩ := Dp.readsAll I ds _ its ha rv
    have em : its.map (SeqAt.readOf s.heap) = ds := SeqAt.readsAll_map ds its as hxs h4
    refine call_meets PySem.F.slot_list_count ⟨_, ho, rfl⟩ PySem.F.entry_list_count (PySem.F.args_list_count_2 _ _) (SeqAt.list_countAt a its.toArray n dd sls uy fun u => PyData.eqv (SeqAt.readOf s.heap u) d)
      ⟨ho, SeqAt.items_eqAt (vs := its.toArray) (show ReadsAll s.heap its.toArray.toList ds as from h4) r1 hxs (SeqAt.canLay_of_shaped sd) (PyProof.Rows.room_in_shaped sd hu), ?_⟩
    have ec : its.toArray.toList.countP (fun u => PyData.eqv (SeqAt.readOf s.heap u) d) = ds.countP fun z => PyData.eqv z d := by
      rw [← em, List.countP_map]; rfl
    refine ⟨.int ((ds.countP fun z => PyData.eqv z d : Nat) : Int), H, I.tok _, ⟨s.toks, ?_⟩, q⟩
    show Value.int ((its.toArray.toList.countP fun u => PyData.eqv (SeqAt.readOf s.heap u) d : Nat) : Int) s.toks = _
    rw [ec]
end
@[simp] def fCntD : D → D → R
  | .list ds, y => if SeqAt.shaped (.list ds) = true ∧ SeqAt.shaped y = true then ri ((ds.countP fun z => PyData.eqv z y : Nat) : Int) else .stuck
  | _, _ => .stuck
@[simp] def fIdxD : D → D → R
  | .list ds, y => if SeqAt.shaped (.list ds) = true ∧ SeqAt.shaped y = true then (match ds.findIdx? fun z => PyData.eqv z y with
    | some j => ri (j : Nat)
    | none => .stuck) else .stuck
  | _, _ => .stuck
/-- a method of one argument, of a list's -/
@[simp] def vMth (h : D → D → R) (f g : FE) : FE := fun env => (f env).d fun x => match x with
  | .list ds => (evA [g] env).b fun as => match as with
    | [.sh y] => h (.list ds) y
    | _ => .stuck
  | _ => .stuck
section
variable {X : Cx} {T : Ct} {EX : XK} {B : Hp × Hp} {e a b c o tg : Expr} {es : List Expr} {pos p p2 : Pos} {f g h : FE} {fs : List FE} {G H G1 H1 : Hp} {Q : VK} {st : Stmt} {sts : List Stmt} {s t : FS} {D : Ends} {σ : L2.St} {env : VEnv}
theorem mth_use {r : V → List V → Hp → VK → Prop} {fn : VL.D → VL.D → R} (prim : ∀ (l : Addr) (y : V) (ds : List VL.D) (d : VL.D) (G H : Hp), Same G H → Dq G (.ref l) (.list ds) → Dq G y d → Out T EX (fn (.list ds) d) G H Q → r (.ref l) [y] H Q)
    (q : rdV T EX B (vMth fn f g) σ H Q) : rdV T EX B f σ H (fun x H1 => (∃ l xs, x = .ref l ∧ SqL [] H1 l xs) ∧ rdA T EX B [g] σ H1 fun vs H2 => r x vs H2 Q) := by
  obtain ⟨G, env, S, o⟩ := q
  refine rdV_mono (seqD S o) fun x H1 ⟨dx, G1, s1, hx, S1, o1⟩ => ?_
  split at o1
  · obtain ⟨l, xs, rfl, sq, q1⟩ := hx.lstH S1.gh
    refine ⟨⟨l, xs, rfl, sq⟩, args_seq S1 o1 fun vs as G2 H2 s2 rp S2 o2 => ?_⟩
    split at o2
    · cases rp with
      | cons h1 t =>
        cases t
        exact prim l _ _ _ G2 H2 S2.gh (hx.mono s2.gg) h1 o2
    · exact o2.elim
  · exact o1.elim
theorem dq_dp {K : PySem.W.Frag} {v : V} {d : VL.D} (h : Dq G v d) (e : Same G H) : Dp K H v d := dp_K _ _ (h.mono e).dp
theorem ve_count {apos : Pos} (C : Cv X T EX B) (ha : VE X T EX B a f) (hb : VE X T EX B b g) (hbase : attributeBase a "count" X.env (eval a X.env) = eval a X.env := by rfl)
    (hline : (apos.endLine == pos.line) = true := by rfl) (hs : starEach [b] X.env = [(false, eval b X.env)] := by rfl) (hplain : (backTo pos (starEach [] X.env)).any (·.1) = false := by rfl)
    (hfew : ((backTo pos (starEach [b] X.env)).all (fun x => !x.1) && (backToKw pos (keywordEach [] X.env)).all (fun x => x.1.isSome)
      && decide ([b].length + ([] : List Keyword).length + (if ([] : List Keyword).isEmpty then 0 else 1) < 30)) = true := by rfl) : VE X T EX B (.Call (.Attribute a "count" apos) [b] [] pos) (vMth fCntD f g) := by
  refine pe_weak (pe_bm PySem.F.plainAttrs_list PySem.F.slot_list_count PySem.F.type_list_count (mt_countD (by have := C.un; omega)) ha (va_cons hb va_nil hs) hbase hfew hline hs hplain) fun σ H Q q => ?_
  refine rdV_mono (mth_use (r := rCountD X.K) (fun l y ds d G H gh h1 h2 o => ?_) q) fun x H1 z => ?_
  · simp only [fCntD] at o
    split at o
    · rename_i c
      exact ⟨l, y, d, ds, rfl, rfl, dq_dp h1 gh, dq_dp h2 gh, c.1, c.2, o.ri gh⟩
    · exact o.elim
  · obtain ⟨⟨l, xs, rfl, sq⟩, z⟩ := z
    exact ⟨.inl ⟨rfl, xs, sqL_K sq⟩, z⟩
theorem ve_indexD {apos : Pos} (C : Cv X T EX B) (ha : VE X T EX B a f) (hb : VE X T EX B b g) (hbase : attributeBase a "index" X.env (eval a X.env) = eval a X.env := by rfl)
    (hline : (apos.endLine == pos.line) = true := by rfl) (hs : starEach [b] X.env = [(false, eval b X.env)] := by rfl) (hplain : (backTo pos (starEach [] X.env)).any (·.1) = false := by rfl)
    (hfew : ((backTo pos (starEach [b] X.env)).all (fun x => !x.1) && (backToKw pos (keywordEach [] X.env)).all (fun x => x.1.isSome)
      && decide ([b].length + ([] : List Keyword).length + (if ([] : List Keyword).isEmpty then 0 else 1) < 30)) = true := by rfl) : VE X T EX B (.Call (.Attribute a "index" apos) [b] [] pos) (vMth fIdxD f g) := by
  refine pe_weak (pe_bm PySem.F.plainAttrs_list PySem.F.slot_list_index PySem.F.type_list_index (mt_indexD (by have := C.un; omega)) ha (va_cons hb va_nil hs) hbase hfew hline hs hplain) fun σ H Q q => ?_
  refine rdV_mono (mth_use (r := rIndexD X.K) (fun l y ds d G H gh h1 h2 o => ?_) q) fun x H1 z => ?_
  · simp only [fIdxD] at o
    split at o
    · rename_i c
      split at o
      · rename_i j ej
        obtain ⟨hj, h3, h4⟩ := List.findIdx?_eq_some_iff_getElem.mp ej
        exact ⟨l, y, d, ds, j, ds[j], rfl, rfl, dq_dp h1 gh, dq_dp h2 gh, c.1, c.2, List.getElem?_eq_getElem hj, h3, fun m z' hm hz => by
          obtain ⟨w, hw⟩ := List.getElem?_eq_some_iff.mp hz
          have := h4 m hm
          rw [hw] at this
          simpa using this, o.ri gh⟩
      · exact o.elim
    · exact o.elim
  · obtain ⟨⟨l, xs, rfl, sq⟩, z⟩ := z
    exact ⟨.inl ⟨rfl, xs, sqL_K sq⟩, z⟩
end
end VL
namespace VL
open PySem L2
/-! ### str(x) of a list or a tuple -/
def isSeq : D → Bool
  | .list _ | .tuple _ => true
  | _ => false
def fStr (d : D) : R := if isSeq d = true ∧ d.showable = true ∧ d.hasDict = false ∧ d.depth ≤ 64 ∧ d.shown.length ≤ 16777216 ∧ PyData.strOk d.shown = true then ok (.str d.shown) else .stuck
section
variable {X : Cx} {T : Ct} {EX : XK} {B : Hp × Hp} {a : Expr} {pos p : Pos} {f : FE} {G H : Hp} {Q : VK}
theorem call_strD (hg : X.A.guards = some []) (hu : X.A.units + 150 < cLine) : CallR X (.type "str") (fun xs H Q => ∃ (b : Addr) (d : D), xs = [.ref b] ∧ Dp X.K H (.ref b) d ∧ d.showable = true ∧ d.hasDict = false ∧ d.depth ≤ 64 ∧ d.shown.length ≤ 16777216 ∧ Q (.str d.shown) H) := by
  intro pn s σ H xs us Q I r h
  obtain ⟨b, d, rfl, hd, h1, h2, h3, h4, q⟩ := h
  obtain ⟨u, rfl, ru⟩ := vals1 r
  obtain ⟨as, rd⟩ := Dp.reads I d (.ref b) u hd ru
  obtain rfl : u = Value.ref b := ru
  exact str_of_reads rd h1 (fun z => by rw [h2] at z; cases z) hg (by omega) (fun _ _ e => e) (fun h' u tk hk => ⟨.str d.shown, H, I.kept hk, ⟨u, rfl⟩, q⟩) (by rw [sizeLine_eq]; exact h4)
theorem ve_str1 (C : Cv X T EX B) (t : Bt X "str") (ha : VE X T EX B a f) (hs : starEach [a] X.env = [(false, eval a X.env)] := by rfl) : VE X T EX B (.Call (.Name "str" p) [a] [] pos) (cal1 fStr f) :=
  ve_cal1T (call_strD C.gd C.un) (fun Q v d G H gh hv o => by
    unfold fStr at o
    split at o
    · rename_i z
      obtain ⟨z0, z1, z2, z3, z4, z5⟩ := z
      have hd := dq_dp (K := X.K) hv gh
      cases d with
      | list ds =>
        obtain ⟨l, xs, rfl, s1, q1⟩ := hv.lstH gh
        exact ⟨l, _, rfl, hd, z1, z2, z3, z4, o.ok gh ⟨.str _, by simp only [PyData.canLay0, z5]⟩⟩
      | tuple ds =>
        obtain ⟨l, xs, rfl, s1, q1⟩ := hv.tupH gh
        exact ⟨l, _, rfl, hd, z1, z2, z3, z4, o.ok gh ⟨.str _, by simp only [PyData.canLay0, z5]⟩⟩
      | _ => cases z0
    · exact o.elim) t.gl t.mg (by decide +kernel) ha hs
end
end VL
namespace VL
open PySem L2
/-! ### y = x.pop(k), x.pop(k), k a place of x -/
@[simp] def popK (ds : List D) (j : Nat) (env : VEnv) (w : VEnv → D → VEnv) : SV → SR
  | .sh (.int k) => if 0 ≤ k ∧ k < ds.length ∧ ds.length ≤ 1000000 then (match ds[k.toNat]? with
    | some d => .nx (w (env.set j (some (.ow (ds.eraseIdx k.toNat)))) d)
    | none => .stuck) else .stuck
  | _ => .stuck
@[simp] def sPopI (i j : Nat) (g : FE) : FS := fun env => match env[j]? with
  | some (some (.ow ds)) => (match evA [g] env with
    | .val [a] => popK ds j env (fun e d => e.set i (some (.sh d))) a
    | .err c => .err c
    | _ => .stuck)
  | _ => .stuck
@[simp] def sPopX (j : Nat) (g : FE) : FS := fun env => match env[j]? with
  | some (some (.ow ds)) => (match evA [g] env with
    | .val [a] => popK ds j env (fun e _ => e) a
    | .err c => .err c
    | _ => .stuck)
  | _ => .stuck
theorem seqIx {k : Int} {n : Nat} (h0 : 0 ≤ k) (h1 : k < n) : seqIndex? k n = some k.toNat := by
  have c : ¬ k < 0 := by omega
  unfold seqIndex?
  simp only [if_neg c, decide_eq_true h0, decide_eq_true h1, Bool.and_self, if_true]
theorem DqAll.erase {G : Hp} : ∀ {ds : List D} {vs : List V} (n : Nat), DqAll G vs ds → DqAll G (vs.eraseIdx n) (ds.eraseIdx n)
  | [], _, n, h => by rw [h.inv0]; simp; exact .nil
  | _ :: _, _, 0, h => by
    obtain ⟨v, vs', rfl, h1, h2⟩ := h.inv
    exact h2
  | _ :: _, _, n + 1, h => by
    obtain ⟨v, vs', rfl, h1, h2⟩ := h.inv
    exact .cons h1 (h2.erase n)
section
variable {X : Cx} {T : Ct} {EX : XK} {B : Hp × Hp} {e : Expr} {pos : Pos} {f : FE} {G H : Hp} {σ : L2.St} {env : VEnv} {Dn : Ends}
theorem pop_use {w : VEnv → D → VEnv} {wσ : L2.St → V → L2.St} {j : Nat} {ds : List D} (hw : ∀ {G H : Hp} {env : VEnv} {σ : L2.St} {v : V} {d : D}, Sim T B G env σ H → Dq G v d → Sim T B G (w env d) (wσ σ v) H) (S : Sim T B G env σ H) (ei : env[j]? = some (some (.ow ds)))
    (o : OutS T EX B (match evA [f] env with | .val [a] => popK ds j env w a | .err c => .err c | _ => .stuck) G Dn) :
    ∃ p, σ[j]? = some (some (.ref p)) ∧ (∃ xs, SqL X.K H p xs) ∧ rdA T EX B [f] σ H fun vs H1 => rPopAt (.ref p) vs H1 fun v H2 => Dn.nx (wσ σ v) H2 := by
  obtain ⟨p, xs, h1, h2, h3, h4, h5⟩ := S.ow j ds ei
  refine ⟨p, h1, ⟨xs, SqL.of h2⟩, args1 (D := Dn) (K := popK ds j env w) S o fun a v G1 H1 s1 rp S1 o1 => ?_⟩
  unfold popK at o1
  split at o1
  · rename_i k
    split at o1
    · rename_i z
      obtain ⟨z0, z1, z2⟩ := z
      split at o1
      · rename_i d hd
        obtain ⟨h3', h2'⟩ := s1.own h3 h2
        have h5' := h5.mono s1.gg
        obtain ⟨y, hy, dy⟩ := h5'.get hd
        have hv : v = .int k := Dq.intInv rp
        subst hv
        have S2 := S1.write ei h1 (h5'.erase k.toNat)
        exact ⟨p, xs, k, k.toNat, y, rfl, rfl, h2', by omega, by omega, by rw [h5.length]; exact seqIx z0 z1, hy, o1 G1 _ _ (Same.refl _) (hw S2 dy)⟩
      · exact o1.elim
    · exact o1.elim
  · exact o1.elim
theorem vs_popI (i j : Nat) {x y : Str} {px py apos cpos : Pos} (C : Cv X T EX B) (he : VE X T EX B e f) (hN : X.N[j]? = some x := by rfl) (hv : Vis X.env.scope x := by first | exact Or.inl rfl | exact Or.inr (Or.inl rfl) | exact Or.inr (Or.inr rfl)) (hd : (x == ("__debug__" : Str)) = false := by decide) (hcd : (x == ("__classdict__" : Str)) = false := by decide)
    (hline : (apos.endLine == cpos.line) = true := by rfl) (hs : starEach [e] X.env = [(false, eval e X.env)] := by rfl) (hi : X.N[i]? = some y := by rfl) (hx : Loc X.env.scope y := by first | exact .inl rfl | exact .inr rfl) (hf : X.fn y = true ∨ X.env.scope.names.lookup y = some .local := by first | exact .inl rfl | exact .inr rfl) :
    VS X T EX B (.Assign [.Name y py] (.Call (.Attribute (.Name x px) "pop" apos) [e] [] cpos) pos) (sPopI i j f) := by
  refine ps_weak (ps_set C.nd hi hx (pe_bm PySem.F.plainAttrs_list PySem.F.slot_list_pop PySem.F.type_list_pop mt_popAt (pe_var hN hv hd hcd) (va_cons he va_nil hs) rfl (by rw [hs]; rfl) hline hs rfl) rfl hf) fun D σ H q => ?_
  obtain ⟨G, env, S, o⟩ := q
  unfold sPopI at o
  split at o
  · rename_i ds ei
    obtain ⟨p, h1, ⟨xs, sq⟩, z⟩ := pop_use (X := X) (wσ := fun σ v => σ.set i (some v)) (fun S d => S.setSh d) S ei o
    exact ⟨.ref p, h1, .inl ⟨rfl, xs, sq⟩, z⟩
  · exact o.elim
theorem vs_popX (j : Nat) {x : Str} {px apos cpos : Pos} (he : VE X T EX B e f) (hN : X.N[j]? = some x := by rfl) (hv : Vis X.env.scope x := by first | exact Or.inl rfl | exact Or.inr (Or.inl rfl) | exact Or.inr (Or.inr rfl)) (hd : (x == ("__debug__" : Str)) = false := by decide) (hcd : (x == ("__classdict__" : Str)) = false := by decide)
    (hline : (apos.endLine == cpos.line) = true := by rfl) (hs : starEach [e] X.env = [(false, eval e X.env)] := by rfl) :
    VS X T EX B (.Expr (.Call (.Attribute (.Name x px) "pop" apos) [e] [] cpos) pos) (sPopX j f) := by
  refine ps_weak (ps_expr (pe_bm PySem.F.plainAttrs_list PySem.F.slot_list_pop PySem.F.type_list_pop mt_popAt (pe_var hN hv hd hcd) (va_cons he va_nil hs) rfl (by rw [hs]; rfl) hline hs rfl) rfl) fun D σ H q => ?_
  obtain ⟨G, env, S, o⟩ := q
  unfold sPopX at o
  split at o
  · rename_i ds ei
    obtain ⟨p, h1, ⟨xs, sq⟩, z⟩ := pop_use (X := X) (wσ := fun σ _ => σ) (fun S _ => S) S ei o
    exact ⟨.ref p, h1, .inl ⟨rfl, xs, sq⟩, z⟩
  · exact o.elim
end
end VL
namespace VL
open PySem L2
/-! ### the table of counts -/
def spK (a b : Nat) : List Key := [.inl (a : Int), .inl (b : Int)]
theorem nodup_lt : ∀ (n : Nat) (l : List Nat), l.Nodup → (∀ x ∈ l, x < n) → l.length ≤ n
  | 0, [], _, _ => Nat.le_refl _
  | 0, x :: _, _, h => absurd (h x List.mem_cons_self) (by omega)
  | n + 1, l, hn, h => by
    have h1 := nodup_lt n (l.erase n) (hn.erase n) fun x m => by
      have a := h x (List.mem_of_mem_erase m)
      have b : x ≠ n := fun e => by
        subst e
        exact (List.Nodup.not_mem_erase hn) m
      omega
    have h2 := List.length_erase_le (a := n) (l := l)
    by_cases c : n ∈ l
    · rw [List.length_erase_of_mem c] at h1; omega
    · rw [List.erase_of_not_mem c] at h1; omega
theorem memK_nil : MemK [] := ⟨List.nodup_nil, fun _ m => absurd m List.not_mem_nil⟩
theorem memK_val {kvs : List (List Key × V)} (h : MemK kvs) {a b : Nat} {v : V} (e : valV kvs (spK a b) = some v) : v = .int (manyN a b : Nat) := by
  unfold valV at e
  obtain ⟨p, h1, rfl⟩ := Option.map_eq_some_iff.mp e
  have h2 := List.find?_some h1
  simp only [decide_eq_true_eq] at h2
  obtain ⟨x, y, _, _, e1, e2⟩ := h.2 p (List.mem_of_find?_eq_some h1)
  rw [h2] at e1
  unfold spK at e1
  injection e1 with e1 e3
  injection e3 with e3 _
  injection e1 with e1
  injection e3 with e3
  have ex : a = x := by omega
  have ey : b = y := by omega
  subst ex ey
  exact e2
theorem memK_put {kvs : List (List Key × V)} (h : MemK kvs) {a b : Nat} (ha : a ≤ 40) (hb : b ≤ 40) : MemK (putK kvs (spK a b) (.int (manyN a b : Nat))) := by
  unfold putK
  split
  · refine ⟨?_, fun p m => ?_⟩
    · have : (kvs.map fun kv => if kv.1 = spK a b then (kv.1, V.int (manyN a b : Nat)) else kv).map (·.1) = kvs.map (·.1) := by
        rw [List.map_map]
        refine List.map_congr_left fun kv _ => ?_
        simp only [Function.comp]
        split <;> rfl
      rw [this]; exact h.1
    · obtain ⟨kv, m1, rfl⟩ := List.mem_map.mp m
      split
      · rename_i z; exact ⟨a, b, ha, hb, z, rfl⟩
      · exact h.2 kv m1
  · rename_i z
    refine ⟨?_, fun p m => ?_⟩
    · rw [List.map_append]
      refine List.nodup_append.mpr ⟨h.1, by simp, fun x mx y my => ?_⟩
      simp only [List.map_cons, List.map_nil, List.mem_singleton] at my
      subst my
      intro e
      subst e
      obtain ⟨kv, m1, e1⟩ := List.mem_map.mp mx
      exact z (List.any_eq_true.mpr ⟨kv, m1, by simpa using e1⟩)
    · rcases List.mem_append.mp m with m | m
      · exact h.2 p m
      · rw [List.mem_singleton.mp m]; exact ⟨a, b, ha, hb, rfl, rfl⟩
def keyN : List Key → Nat
  | [.inl a, .inl b] => a.toNat * 41 + b.toNat
  | _ => 0
theorem memK_len {kvs : List (List Key × V)} (h : MemK kvs) : kvs.length ≤ 1681 := by
  have e : kvs.length = ((kvs.map (·.1)).map keyN).length := by simp
  rw [e]
  refine nodup_lt 1681 _ ?_ fun x m => ?_
  · refine List.pairwise_map.mpr (h.1.imp_of_mem fun {x y} mx my ne e => ne ?_)
    obtain ⟨p, m1, rfl⟩ := List.mem_map.mp mx
    obtain ⟨q, m2, rfl⟩ := List.mem_map.mp my
    obtain ⟨a, b, ha, hb, e1, _⟩ := h.2 p m1
    obtain ⟨c, d, hc, hd, e2, _⟩ := h.2 q m2
    rw [e1, e2] at e ⊢
    simp only [keyN, Int.toNat_natCast] at e
    have : a = c := by omega
    have : b = d := by omega
    subst_vars; rfl
  · obtain ⟨k, m1, rfl⟩ := List.mem_map.mp m
    obtain ⟨p, m2, rfl⟩ := List.mem_map.mp m1
    obtain ⟨a, b, ha, hb, e1, _⟩ := h.2 p m2
    rw [e1]
    simp only [keyN, Int.toNat_natCast]; omega
@[simp] def sMemo (i j a b : Nat) (f : FE) : FS := fun env => match env[a]?, env[b]?, env[j]? with
  | some (some (.sh (.int x))), some (some (.sh (.int y))), some (some (.ob 101 _)) => if 0 ≤ x ∧ x ≤ 40 ∧ 0 ≤ y ∧ y ≤ 40 ∧ i ≠ j ∧ i < env.length then (match f (env.set i (some (.sh (.tuple [.int x, .int y])))) with
    | .val (.sh (.int v)) => if v = (manyN x.toNat y.toNat : Nat) then .rt (.sh (.int v)) else .stuck
    | _ => .stuck) else .stuck
  | _, _, _ => .stuck
section
variable {X : Cx} {T : Ct} {EX : XK} {B : Hp × Hp} {e : Expr} {f : FE} {G H : Hp} {σ : L2.St} {env : VEnv}
theorem vss_memo (i j a b : Nat) {sp kn ka kb : Str} {p1 p2 p3 p4 p5 p6 p7 p8 p9 q1 q2 q3 q4 q5 q6 q7 q8 : Pos} {x1} (C : Cv X T EX B) (he : VE X T EX B e f)
    (hi : X.N[i]? = some sp := by rfl) (hj : X.N[j]? = some kn := by rfl) (ha : X.N[a]? = some ka := by rfl) (hb : X.N[b]? = some kb := by rfl)
    (hx : Loc X.env.scope sp := by first | exact .inl rfl | exact .inr rfl) (hf : X.fn sp = true ∨ X.env.scope.names.lookup sp = some .local := by first | exact .inl rfl | exact .inr rfl)
    (vi : Vis X.env.scope sp := by first | exact Or.inl rfl | exact Or.inr (Or.inl rfl) | exact Or.inr (Or.inr rfl)) (vj : Vis X.env.scope kn := by first | exact Or.inl rfl | exact Or.inr (Or.inl rfl) | exact Or.inr (Or.inr rfl))
    (va : Vis X.env.scope ka := by first | exact Or.inl rfl | exact Or.inr (Or.inl rfl) | exact Or.inr (Or.inr rfl)) (vb : Vis X.env.scope kb := by first | exact Or.inl rfl | exact Or.inr (Or.inl rfl) | exact Or.inr (Or.inr rfl))
    (di : (sp == ("__debug__" : Str)) = false := by decide) (dj : (kn == ("__debug__" : Str)) = false := by decide) (da : (ka == ("__debug__" : Str)) = false := by decide) (db : (kb == ("__debug__" : Str)) = false := by decide)
    (ci : (sp == ("__classdict__" : Str)) = false := by decide) (cj : (kn == ("__classdict__" : Str)) = false := by decide) (ca : (ka == ("__classdict__" : Str)) = false := by decide) (cb : (kb == ("__classdict__" : Str)) = false := by decide)
    (hs0 : starEach [.Name ka p2, .Name kb p3] X.env = (false, eval (.Name ka p2) X.env) :: starEach [.Name kb p3] X.env := by rfl) (hs1 : starEach [.Name kb p3] X.env = [(false, eval (.Name kb p3) X.env)] := by rfl)
    (sw1 : swapsWith (.Tuple [.Name ka p2, .Name kb p3] x1 p4) (some (.Name sp p1)) q1.line X.env = pure false := by rfl)
    (hns : NoSl (.Name sp q6) := by intro _ _; rfl)
    (sw2 : swapsWith e (some (.Subscript (.Name kn p7) (.Name sp p8) p9)) q3.line X.env = pure false := by rfl) :
    VSs X T EX B [.Assign [.Name sp p1] (.Tuple [.Name ka p2, .Name kb p3] x1 p4) q1, .If (.Compare (.Name sp p5) [.NotIn] [.Name kn p6] q2) [.Assign [.Subscript (.Name kn p7) (.Name sp p8) p9] e q3] [] q4, .Return (some (.Subscript (.Name kn q5) (.Name sp q6) q7)) q8] (sMemo i j a b f) := by
  have hu : X.A.units + 1 < cLine := by have := C.un; omega
  refine pss_weak (pss_cons (ps_set C.nd hi hx (pe_tup (pa_cons (pe_var ha va da ca) (pa_cons (pe_var hb vb db cb) pa_nil hs1) hs0)) sw1 hf)
    (pss_cons (ps_if (pt_cmp (pc_dnotin hu (pe_var hi vi di ci) (pe_var hj vj dj cj))) (pss_one (ps_dput hu (pe_var hj vj dj cj) (pe_var hi vi di ci) he sw2)) pss_nil)
      (pss_one (ps_ret (pe_dget hu (pe_var hj vj dj cj) (pe_var hi vi di ci) hns))))) fun D σ H q => ?_
  obtain ⟨G, env, S, o⟩ := q
  unfold sMemo at o
  split at o
  rotate_left
  · exact o.elim
  rename_i x y fs ea eb ej
  split at o
  rotate_left
  · exact o.elim
  rename_i cn
  obtain ⟨x0, x1', y0, y1, nij, il⟩ := cn
  split at o
  rotate_left
  · exact o.elim
  rename_i v ev
  split at o
  rotate_left
  · exact o.elim
  rename_i hv
  obtain ⟨va', hva, qa⟩ := S.sh a _ ea
  obtain ⟨vb', hvb, qb⟩ := S.sh b _ eb
  have ea' := qa.intInv
  have eb' := qb.intInv
  subst ea' eb'
  obtain ⟨vj', hvj, qj⟩ := S.ob j 101 _ ej
  unfold ObRp at qj
  rw [if_neg (by decide), if_pos rfl] at qj
  obtain ⟨m, tm, rfl⟩ := qj
  obtain ⟨n1, rfl⟩ := Int.eq_ofNat_of_zero_le x0
  obtain ⟨n2, rfl⟩ := Int.eq_ofNat_of_zero_le y0
  simp only [Int.toNat_natCast] at hv
  refine ⟨_, hva, _, hvb, by rw [sizeLine_eq]; simp, fun p hp => ?_⟩
  have ni : i < σ.length := S.len ▸ il
  have si : (σ.set i (some (V.ref p)))[i]? = some (some (.ref p)) := List.getElem?_set_self ni
  have sj : (σ.set i (some (V.ref p)))[j]? = some (some (.ref m)) := by rw [List.getElem?_set_ne nij]; exact hvj
  have st1 : Step G H (upd G p (.tup [.int (n1 : Int), .int (n2 : Int)])) (upd H p (.tup [.int (n1 : Int), .int (n2 : Int)])) := Step.new S.gh hp _
  have S1 : Sim T B (upd G p (.tup [.int (n1 : Int), .int (n2 : Int)])) (env.set i (some (.sh (.tuple [.int (n1 : Int), .int (n2 : Int)])))) (σ.set i (some (.ref p))) (upd H p (.tup [.int (n1 : Int), .int (n2 : Int)])) :=
    (S.step st1).setSh (Dq.tup (SqT.of upd_same) (.cons .int (.cons .int .nil)))
  generalize hH1 : upd H p (.tup [.int (n1 : Int), .int (n2 : Int)]) = H1 at *
  generalize hG1 : upd G p (.tup [.int (n1 : Int), .int (n2 : Int)]) = G1 at *
  have hp1 : H1 p = some (.tup ((spK n1 n2).map kV)) := by rw [← hH1]; exact upd_same
  obtain ⟨kvs, hm1, mm1⟩ := S1.me.1 m tm
  refine ⟨_, si, _, sj, m, _, rfl, DGet.t hm1 hp1, _, rfl, ?_⟩
  cases hval : valV kvs (spK n1 n2) with
  | some w =>
    have hw := memK_val mm1 hval
    subst hw
    rw [← hv] at hval
    refine ⟨_, sj, _, si, m, _, rfl, ?_, o (.int v) _ H1 S1.st .int⟩
    rw [← hval]
    exact DGet.t hm1 hp1
  | none =>
    refine ⟨_, _, S1, ?_⟩
    rw [ev]
    intro v' G2 H2 s2 dq
    have e' := dq.intInv
    subst e'
    have S2 := S1.step s2
    obtain ⟨kvs2, hm2, mm2⟩ := S2.me.1 m tm
    have hp2 : H2 p = some (.tup ((spK n1 n2).map kV)) := s2.hh.at hp1 fun z => z
    have pm : p ≠ m := fun z => by rw [z, hm2] at hp2; cases hp2
    have mk := memK_put mm2 (a := n1) (b := n2) (by omega) (by omega)
    rw [← hv] at mk
    have ln := memK_len mm2
    refine ⟨_, sj, _, si, m, _, rfl, DPut.t hm2 hp2 (by rw [sizeLine_eq]; omega), _, sj, _, si, m, .int v, rfl, ?_, o (.int v) G2 _ (S2.st.trans ⟨fun c u z => ?_, Same.refl _, fun c u z => ?_, fun _ u w => absurd u w, fun n => n⟩) .int⟩
    · have g := DGet.t (H := upd H2 m (.dT (putK kvs2 (spK n1 n2) (.int v)))) (a := m) (b := p) (k := spK n1 n2) upd_same (by rw [upd_ne pm]; exact hp2)
      rw [valV_put, if_pos rfl] at g
      exact g
    · by_cases y : c = m
      · subst y
        rw [hm2] at z
        cases z
        exact ⟨_, upd_same, .inr ⟨mm2, mk, .inl ⟨_, _, rfl, rfl⟩⟩⟩
      · exact ⟨u, by rw [upd_ne y]; exact z, .inl rfl⟩
    · have y : c ≠ m := fun y => by
        have := S2.gh c u z
        rw [y, hm2] at this
        cases this
        exact S2.st.nm S2.nb.1 c _ z mm2
      rw [upd_ne y]; exact S2.gh c u z
end
end VL
namespace VL
open PySem L2
/-! ### f(.., {}): a call that is handed a new table -/
@[simp] def noOb : SV → Bool
  | .ob _ _ => false
  | _ => true
@[simp] def calM (n : Nat) (m : List SV → R) (fs : List FE) : FE := fun env => (evA fs env).b fun as => if as.length + 1 = n ∧ as.all noOb = true then (match m (as ++ [.ob 101 []]) with
  | .val (.ob _ _) => .stuck
  | .val (.rg _) => .stuck
  | r => r) else .stuck
section
variable {X : Cx} {T : Ct} {EX : XK} {B : Hp × Hp} {e : Expr} {es : List Expr} {pos p : Pos} {f : FE} {fs : List FE} {G H : Hp} {Q : VK}
def rdM (T : Ct) (EX : XK) (B : Hp × Hp) (fs : List FE) : TA := fun σ H Q => rdA T EX B fs σ H fun vs H1 => ∀ q, H1 q = none → Q (vs ++ [.ref q]) (upd H1 q (.dT []))
def VM (X : Cx) (T : Ct) (EX : XK) (B : Hp × Hp) (es : List Expr) (fs : List FE) : Prop := PA X es (rdM T EX B fs)
theorem rda_nil {σ : L2.St} {Q : List V → Hp → Prop} (h : rdA T EX B [] σ H Q) : Q [] H := by
  obtain ⟨G, env, S, o⟩ := h
  exact o [] G H (Step.refl S.gh) .nil
theorem vm_last (hs : starEach [.Dict [] [] p] X.env = [(false, eval (.Dict [] [] p) X.env)] := by rfl) : VM X T EX B [.Dict [] [] p] [] :=
  pa_weak (pa_cons pe_dnewT pa_nil hs) fun σ H Q q => fun r hr => rda_nil q r hr
theorem vm_cons (h : VE X T EX B e f) (hr : VM X T EX B es fs) (hs : starEach (e :: es) X.env = (false, eval e X.env) :: starEach es X.env := by rfl) : VM X T EX B (e :: es) (f :: fs) :=
  pa_weak (pa_cons h hr hs) fun σ H Q q => rdA_cons q
theorem all_other {T' : Ct} (h1 : T.ad = T'.ad) (h2 : T.fl = T'.fl) : ∀ {vs : List V} {as : List SV}, VRpAll T G vs as → as.all noOb = true → VRpAll T' G vs as
  | _, _, .nil, _ => .nil
  | _, a :: _, .cons h t, n => by
    simp only [List.all_cons, Bool.and_eq_true] at n
    refine .cons ?_ (all_other h1 h2 t n.2)
    cases a with
    | sh d => exact h
    | ow _ => exact h
    | rg _ => exact h.elim
    | ob _ _ => exact absurd n.1 (by simp)
theorem all_snoc {v : V} {a : SV} : ∀ {vs : List V} {as : List SV}, VRpAll T G vs as → VRp T G v a → VRpAll T G (vs ++ [v]) (as ++ [a])
  | _, _, .nil, h => .cons h .nil
  | _, _, .cons x t, h => .cons x (all_snoc t h)
def FnM (P : Program) (w : World) (K : PySem.W.Frag) (mg : Str → Option Value) (base : Heap) (T : Ct) (k : Nat) (x : Str) (n : Nat) (m : List SV → R) : Prop :=
  ∃ f fd ps, (∀ me : Addr, FnGd P w K mg base (L2.CX P w) k f fd ps (spV { T with me := some me } n m)) ∧ mg x = some (.ref f) ∧ PySem.W.keepIn K (.ref f) = true ∧ Binds K fd ps []
theorem ve_callM {x : Str} {n k : Nat} {m : List SV → R} (F : FnM X.prog X.w X.K X.mg X.base T k x n m) (hr : Room k X.A) (hg : Gl X x) (C : Cv X T EX B) (ha : VM X T EX B (e :: es) fs)
    (hd : (x == ("__debug__" : Str)) = false := by decide) (hs : starEach (e :: es) X.env = (false, eval e X.env) :: starEach es X.env := by rfl) (hpl : ((backTo pos (starEach es X.env)).any fun z => z.1) = false := by rfl) :
    VE X T EX B (.Call (.Name x p) (e :: es) [] pos) (calM n m fs) := by
  obtain ⟨f, fd, ps, F, hm, hk, hb⟩ := F
  have F2 : FnGd X.prog X.w X.K X.mg X.base (L2.CX X.prog X.w) k f fd ps (fun vs H Q E => ∃ me : Addr, spV { T with me := some me } n m vs H Q E) :=
    ⟨fun xs H Q E ⟨me, h⟩ => (F me).ln xs H Q E h, fun A ou s H ar us xs Q E g r e0 b v ⟨me, h⟩ => (F me).go A ou s H ar us xs Q E g r e0 b v h⟩
  refine pe_weak (pe_callG (E := fun _ => EX) F2 C.gd hr hg hm hk hb (fun σ pn H s e s' => C.pass pn σ H s e s') ha hd hs hpl) fun σ H Q q => ?_
  obtain ⟨G, env, S, o⟩ := q
  refine args_seq S o fun vs as G1 H1 s1 rp S1 o1 r hq => ?_
  split at o1
  rotate_left
  · exact o1.elim
  rename_i c
  have st : Step G1 H1 G1 (upd H1 r (.dT [])) := Step.apart S1.gh hq _
  refine ⟨r, G1, as ++ [.ob 101 []], st.gh, S1.st.nm S1.nb.1, ⟨⟨fun b z => ?_, (S1.me.step st.hh).2⟩, (S1.step st).mo.2⟩, all_snoc (all_other (T := T) (T' := { T with me := some r }) rfl rfl rp c.2) ?_, by rw [List.length_append]; exact c.1, ?_⟩
  · cases z; exact ⟨_, upd_same, memK_nil⟩
  · show ObRp _ _ _ _ _
    unfold ObRp
    rw [if_neg (by decide), if_pos rfl]
    exact ⟨r, rfl, rfl⟩
  · revert o1
    cases m (as ++ [.ob 101 []]) with
    | stuck => exact fun o1 => o1
    | err e => exact fun o1 H' z => o1 H' (st.hh.trans z)
    | val w =>
      cases w with
      | ob _ _ => exact fun o1 => o1.elim
      | sh d => exact fun o1 => Out.step o1 st
      | ow ds => exact fun o1 => Out.step o1 st
      | rg r => exact fun o1 => o1.elim
end
section
variable {P : Program} {w : World} {K : PySem.W.Frag} {mg : Str → Option Value} {base : Heap} {T : Ct}
theorem fnM_mk {x q : Str} {st : Stmt} {N ps : List Str} {k : Nat} {s : FS} (d : Df K mg x q st ps) (S : FnScope N ps (defScope st)) (hb : ∀ me : Addr, Bd P w K mg base { T with me := some me } k N q st s) : FnM P w K mg base T (k + 1) x ps.length (runB N.length s) := by
  obtain ⟨f, fd, F, hm, hbi⟩ := d
  exact ⟨f, fd, ps, fun me => fn_ok F S fun cdv A outer s0 H E B hr C po tk => hb me f cdv A outer s0 H E B hr C po tk, hm, F.kp, hbi⟩
theorem fnM_zero {x q : Str} {st : Stmt} {ps : List Str} {n : Nat} {m : List SV → R} (d : Df K mg x q st ps) (h : m = fun _ => .stuck) : FnM P w K mg base T 0 x n m := by
  obtain ⟨f, fd, F, hm, hbi⟩ := d
  subst h
  refine ⟨f, fd, ps, fun me => ?_, hm, F.kp, hbi⟩
  have no : ∀ vs H Q E, ¬ spV { T with me := some me } n (fun _ => .stuck) vs H Q E := fun vs H Q E ⟨_, _, _, _, _, _, _, o⟩ => o
  exact ⟨fun vs H Q E h => absurd h (no vs H Q E), fun A outer s H args us vs Q E _ _ _ _ _ h => absurd h (no vs H Q E)⟩
end
end VL
namespace VL
open PySem L2
/-! ### sorted, >= of data that can be compared -/
def leD (d e : D) : Bool := PySem.W.dataLe false id d e
def alikeB (ds : List D) : Bool := ds.all fun d => ds.all fun e => PySem.W.alike d e
@[simp] def plainB : D → Bool
  | .none => false
  | .tuple _ => false
  | _ => true
@[simp] def fSortedD : D → R
  | .list ds => if alikeB ds = true ∧ ds.all plainB = true ∧ ds.all (fun d => decide (d.depth ≤ 60)) = true then .val (.ow (ds.mergeSort leD)) else .stuck
  | _ => .stuck
@[simp] def fGeD (d e : D) : R := if PySem.W.alike d e = true ∧ plainB d = true ∧ d.depth ≤ 60 then rb (!PySem.W.dataLt d e) else .stuck
section
variable {X : Cx} {T : Ct} {EX : XK} {B : Hp × Hp} {a : Expr} {pos p : Pos} {f : FE} {G H : Hp} {Q : VK}
theorem each_dq {pins : List (Addr × Obj)} {σ : L2.St} {s : Shared} (I : Inv X pins σ H s) : ∀ {ds : List D} {xs : List V} {us : List Value}, DqAll H xs ds → Vals xs us → PySem.W.EachIs (fun u (b : V × D) => RelV b.1 u ∧ ∃ as, Reads s.heap u b.2 as) us (xs.zip ds)
  | [], _, _, q, r => by
    rw [q.inv0] at r ⊢
    cases r; exact .nil
  | d :: ds, _, _, q, r => by
    obtain ⟨v, vs, rfl, q1, q2⟩ := q.inv
    cases r with
    | cons r1 r2 => exact .cons ⟨r1, Dp.reads I d v _ q1.K r1⟩ (each_dq I q2 r2)
theorem vals_each : ∀ {us : List Value} {bs : List (V × D)}, PySem.W.EachIs (fun u (b : V × D) => RelV b.1 u) us bs → Vals (bs.map Prod.fst) us
  | _, _, .nil => .nil
  | _, _, .cons h t => .cons h (vals_each t)
theorem dq_pairs : ∀ {bs : List (V × D)}, (∀ b ∈ bs, Dq G b.1 b.2) → DqAll G (bs.map Prod.fst) (bs.map Prod.snd)
  | [], _ => .nil
  | b :: bs, h => .cons (h b List.mem_cons_self) (dq_pairs fun c m => h c (List.mem_cons_of_mem _ m))
theorem dq_zip : ∀ {ds : List D} {xs : List V}, DqAll G xs ds → ∀ b ∈ xs.zip ds, Dq G b.1 b.2
  | [], _, q, b, m => by rw [q.inv0] at m; simp at m
  | d :: ds, _, q, b, m => by
    obtain ⟨v, vs, rfl, q1, q2⟩ := q.inv
    rw [List.zip_cons_cons] at m
    rcases List.mem_cons.mp m with rfl | m
    · exact q1
    · exact dq_zip q2 b m
def rSortedD : List V → Hp → VK → Prop := fun vs H Q => ∃ (l : Addr) (xs : List V) (ds : List D), vs = [.ref l] ∧ SqL [] H l xs ∧ DqAll H xs ds ∧ alikeB ds = true ∧ ds.all plainB = true ∧ (∀ d ∈ ds, d.depth ≤ 60) ∧
  ∀ p, H p = none → Q (.ref p) (upd H p (.lst (((xs.zip ds).mergeSort (PySem.W.dataLe false Prod.snd)).map Prod.fst)))
theorem cr_sortedD (hu : X.A.units + 150 < cLine) : CallR X (.builtin "sorted") rSortedD := by
  intro pins s σ H vs us Q I r h
  obtain ⟨l, xs, ds, rfl, hs, dq, h1, h2, h3, q⟩ := h
  obtain ⟨its, rv, hl, hz⟩ := I.list (sqL_K hs)
  rw [Vals.ref1 r]
  have e := each_dq I dq rv
  have zl : (xs.zip ds).length = xs.length := by rw [List.length_zip, dq.length]; omega
  have zd : (xs.zip ds).map Prod.snd = ds := List.map_snd_zip (by rw [dq.length]; exact Nat.le_refl _)
  refine PySem.W.sorted_data (R := fun u (b : V × D) => RelV b.1 u) (bs := xs.zip ds) (enc := Prod.snd) hl.isList (e.mono fun _ _ z => z.1) (e.mono fun _ _ z => z.2) ?_ ?_ (by rw [zl]; exact hz) (fun b m => ?_) fun out hlo eo => ?_
  · rw [zd]
    intro d hd d' hd'
    exact List.all_eq_true.mp (List.all_eq_true.mp h1 d hd) d' hd'
  · rw [zd]
    refine .inr fun d hd => ?_
    have := List.all_eq_true.mp h2 d hd
    cases d <;> first | (simp at this; done) | exact ⟨fun z => (by cases z), fun xs z => by cases z⟩
  · have := h3 b.2 (by rw [← zd]; exact List.mem_map.mpr ⟨b, m, rfl⟩)
    omega
  · obtain ⟨ep, he'⟩ := PyProof.Rows.sortedAll_at s.heap its out.toArray
    have rv' := vals_each eo
    refine ⟨.ref _, upd H (s.heap.objs.size + 1) (.lst (((xs.zip ds).mergeSort (PySem.W.dataLe false Prod.snd)).map Prod.fst)), I.laid (t' := s.toks) (fun _ _ => PyProof.Rows.sortedAll_old) (Nat.le_succ _) ⟨?_, out, ep, rv', he'⟩, rfl, q _ (I.hok.fresh (Nat.le_succ _))⟩
    rw [List.length_map, List.length_mergeSort, zl]; exact hz
theorem ve_sortedD (C : Cv X T EX B) (t : Bt X "sorted") (ha : VE X T EX B a f) (hs : starEach [a] X.env = [(false, eval a X.env)] := by rfl) : VE X T EX B (.Call (.Name "sorted" p) [a] [] pos) (cal1 fSortedD f) :=
  ve_cal1 (cr_sortedD C.un) (fun Q v d G H gh hv o => by
    unfold fSortedD at o
    split at o
    · rename_i ds
      split at o
      · rename_i c
        obtain ⟨c1, c2, c3⟩ := c
        obtain ⟨l, xs, rfl, s1, q1⟩ := hv.lstH gh
        refine ⟨l, xs, ds, rfl, s1, q1.mono gh, c1, c2, fun d m => by simpa using List.all_eq_true.mp c3 d m, ?_⟩
        have em : ((xs.zip ds).mergeSort (PySem.W.dataLe false Prod.snd)).map Prod.snd = ds.mergeSort leD := by
          rw [List.map_mergeSort (r := PySem.W.dataLe false Prod.snd) (s := leD) (f := Prod.snd) (fun a _ b _ => rfl), List.map_snd_zip (by rw [q1.length]; exact Nat.le_refl _)]
        rw [← em] at o
        refine o.newL gh (dq_pairs fun b m => dq_zip q1 b ((List.mergeSort_perm _ _).mem_iff.mp m))
      · exact o.elim
    · exact o.elim) t.gl t.mg (by decide +kernel) ha hs
theorem c_geD (C : Cv X T EX B) : Cmp X T EX .GtE fGeD (fun x y H Q => ∃ d e, Dq H x d ∧ Dq H y e ∧ PySem.W.alike d e = true ∧ d ≠ .none ∧ d.depth ≤ 60 ∧ Q (.bl (!PySem.W.dataLt d e)) H) := by
  refine ⟨fun pins s σ H x y v u Q I rx ry h => ?_, fun Q x y dx dy G H gh hx hy o => ?_⟩
  · obtain ⟨d, e, hd, he, al, nn, dp, q⟩ := h
    obtain ⟨as, r1⟩ := Dp.reads I d x v hd.K rx
    obtain ⟨bs, r2⟩ := Dp.reads I e y u he.K ry
    exact PySem.W.ge_data r1 r2 al nn (by have := C.un; omega) ⟨.bl _, H, I, rfl, q⟩
  · unfold fGeD at o
    split at o
    · rename_i c
      exact ⟨dx, dy, hx.mono gh, hy.mono gh, c.1, fun z => by subst z; simp at c, c.2.2, o.rb gh⟩
    · exact o.elim
end
end VL
namespace VL
open PySem L2
/-! ### own classes -/
/-- what the top says of the class x, by its number c -/
structure Oc (K : PySem.W.Frag) (mg : Str → Option Value) (T : Ct) (x : Str) (c : Nat) : Prop where
  mgC : mg x = some (.ref (T.ad c))
  fl : T.fl c = clsFlds c
  cl : Cls K (T.ad c)
  na : ∀ f ∈ clsFlds c, NoAttr K (T.ad c) f
  ha : PySem.W.findIn K (.ref (T.ad c)) "__class__" = some (some (.builtin "object.__class__"))
  hn : PySem.W.specialIn K (.builtin "object.__class__") "__get__" = some (some (.builtin "getset_descriptor.__get__"))
  ht : PySem.W.takesIn K (.builtin "object.__class__") = some true
  hm : PySem.W.mroIn K (T.ad c) (.type "object") = some true
  mks : PySem.W.makesIn K (T.ad c) = true
  kp : PySem.W.keepIn K (.ref (T.ad c)) = true
/-- o.f of an object of class c: its j-th field -/
@[simp] def vAt (c j : Nat) (f : FE) : FE := fun env => (f env).v fun a => match a with
  | .ob c' fs => if c' = c then (match fs[j]? with
    | some d => ok d
    | none => .stuck) else .stuck
  | _ => .stuck
/-- isinstance(o, C), C an own class: by the class's number -/
@[simp] def vIsO (t : Nat → Bool) (f : FE) : FE := fun env => (f env).v fun a => match a with
  | .ob c _ => if c ≤ 2 then rb (t c) else .stuck
  | _ => .stuck
/-- o.m(..) -/
@[simp] def vMet (n : Nat) (ms : Nat → List SV → R) (f : FE) (gs : List FE) : FE := fun env => (f env).v fun a => match a with
  | .ob c fs => if c ≤ 2 then (evA gs env).b (fun as => if as.length + 1 = n then ms c (.ob c fs :: as) else .stuck) else .stuck
  | _ => .stuck
theorem zip_lookup {α : Type} : ∀ {fs : List Str} {vs : List α} {j : Nat} {x : Str} {v : α}, fs.Nodup → fs[j]? = some x → vs[j]? = some v → (fs.zip vs).lookup x = some v
  | [], _, _, _, _, _, h, _ => by simp at h
  | _ :: _, [], _, _, _, _, _, h => by simp at h
  | f :: fs, w :: vs, 0, x, v, nd, h1, h2 => by
    simp at h1 h2
    subst h1 h2
    rw [List.zip_cons_cons, List.lookup_cons]
    simp
  | f :: fs, w :: vs, j + 1, x, v, nd, h1, h2 => by
    have h1 : fs[j]? = some x := by simpa using h1
    have h2 : vs[j]? = some v := by simpa using h2
    have nd' := List.nodup_cons.mp nd
    rw [List.zip_cons_cons, List.lookup_cons]
    have : (x == f) = false := by
      rw [beq_eq_false_iff_ne]
      exact fun e => nd'.1 (e ▸ List.mem_of_getElem? h1)
    rw [this]
    exact zip_lookup nd'.2 h1 h2
theorem zip_none {α : Type} : ∀ {fs : List Str} {vs : List α} {x : Str}, x ∉ fs → (fs.zip vs).lookup x = none
  | [], _, _, _ => by simp
  | _ :: _, [], _, _ => by simp
  | f :: fs, w :: vs, x, h => by
    rw [List.zip_cons_cons, List.lookup_cons]
    have : (x == f) = false := by
      rw [beq_eq_false_iff_ne]
      exact fun e => h (e ▸ List.mem_cons_self)
    rw [this]
    exact zip_none fun m => h (List.mem_cons_of_mem _ m)
theorem ObRp.inv {T : Ct} {G : Hp} {v : V} {c : Nat} {fs : List D} (h : ObRp T G v c fs) (hc : c < 100) : ∃ a dx vs, v = .ref a ∧ G a = some (.ins (T.ad c) dx ((T.fl c).zip vs)) ∧ G dx = some (.own a) ∧ vs.length = (T.fl c).length ∧ DqAll G vs fs := by
  unfold ObRp at h
  rwa [if_neg (by omega), if_neg (by omega), if_neg (by omega), if_neg (by omega), if_neg (by omega)] at h
section
variable {X : Cx} {T : Ct} {EX : XK} {B : Hp × Hp} {e a b c o tg : Expr} {es : List Expr} {pos p p2 apos : Pos} {f g h : FE} {fs gs : List FE} {G H G1 H1 : Hp} {Q : VK} {σ : L2.St} {env : VEnv}
theorem ve_at (c j : Nat) {x fn : Str} (oc : Oc X.K X.mg T x c) (ha : VE X T EX B a f) (hf : (clsFlds c)[j]? = some fn := by rfl) (hc : c < 100 := by decide) (nd : (clsFlds c).Nodup := by decide +kernel) (hb : attributeBase a fn X.env (eval a X.env) = eval a X.env := by rfl) :
    VE X T EX B (.Attribute a fn pos) (vAt c j f) := pe_weak (pe_fld ha hb) fun σ H Q q => by
  obtain ⟨G, env, S, o⟩ := q
  refine rdV_mono (seqV S o) fun v H1 ⟨w, G1, s, rp, S1, o1⟩ => ?_
  split at o1
  · rename_i c' fs
    split at o1
    · rename_i ec
      subst ec
      split at o1
      · rename_i d ed
        obtain ⟨a', dx, vs, rfl, e1, e2, l, dq⟩ := ObRp.inv rp hc
        obtain ⟨u, eu, du⟩ := dq.get ed
        exact ⟨a', _, dx, _, u, rfl, S1.gh _ _ e1, oc.cl, oc.na fn (List.mem_of_getElem? hf), zip_lookup (by rw [oc.fl]; exact nd) (by rw [oc.fl]; exact hf) eu, o1.ok S1.gh du⟩
      · exact o1.elim
    · exact o1.elim
  · exact o1.elim
/-- the class D asked for, with its answers -/
def OkI (K : PySem.W.Frag) (mg : Str → Option Value) (T : Ct) (x : Str) (t : Nat → Bool) : Prop := ∃ D, mg x = some (.ref D) ∧ ∀ c, c ≤ 2 → PySem.W.kitOne K (.ref (T.ad c)) (.ref D) = some (t c)
def Oc3 (K : PySem.W.Frag) (mg : Str → Option Value) (T : Ct) : Prop := ∀ c, c ≤ 2 → ∃ x, Oc K mg T x c
theorem oc3 {K : PySem.W.Frag} {mg : Str → Option Value} {T : Ct} {x y z : Str} (h0 : Oc K mg T x 0) (h1 : Oc K mg T y 1) (h2 : Oc K mg T z 2) : Oc3 K mg T := fun c hc => by
  have : c = 0 ∨ c = 1 ∨ c = 2 := by omega
  rcases this with rfl | rfl | rfl
  · exact ⟨_, h0⟩
  · exact ⟨_, h1⟩
  · exact ⟨_, h2⟩
theorem ve_isO {d : Str} {t : Nat → Bool} {p1 : Pos} (ocs : Oc3 X.K X.mg T) (ok : OkI X.K X.mg T d t) (bi : Bt X "isinstance") (hg : Gl X d) (ha : VE X T EX B a f)
    (hs : starEach [a, .Name d p1] X.env = (false, eval a X.env) :: starEach [.Name d p1] X.env := by rfl) (hd : (d == ("__debug__" : Str)) = false := by decide) : VE X T EX B (.Call (.Name "isinstance" p) [a, .Name d p1] [] pos) (vIsO t f) := by
  obtain ⟨D, hD, hk⟩ := ok
  refine pe_weak (pe_callB call_isi bi.gl bi.mg PyProof.Rows.boot_isinstance (pa_cons ha (pa_cons (pe_glob (v := .ref D) hg hD rfl hd) pa_nil rfl) hs) (by decide) (by decide) hs rfl) fun σ H Q q => ?_
  obtain ⟨G, env, S, o⟩ := q
  refine rdV_mono (seqV S o) fun v H1 ⟨w, G1, s, rp, S1, o1⟩ => ?_
  split at o1
  · rename_i c fs
    split at o1
    · rename_i hc
      obtain ⟨x, oc⟩ := ocs c hc
      obtain ⟨a', dx, vs, rfl, e1, e2, l, dq⟩ := ObRp.inv rp (by omega)
      exact ⟨_, .ref D, .ref (T.ad c), .ref D, t c, rfl, .own D, .base (.ins (S1.gh _ _ e1) oc.cl oc.ha oc.hn oc.ht oc.hm), hk c hc, o1.rb S1.gh⟩
    · exact o1.elim
  · exact o1.elim
/-! ### methods -/
def FnSh (P : Program) (w : World) (K : PySem.W.Frag) (mg : Str → Option Value) (base : Heap) (T : Ct) (k : Nat) (m : Str) (n : Nat) (ms : Nat → List SV → R) : Prop :=
  ∀ c, c ≤ 2 → ∃ f fd ps, FnGd P w K mg base (L2.CX P w) k f fd ps (spV T n (ms c)) ∧ Meth K (T.ad c) m f ∧ Binds K fd ps []
def tMethD (T : Ct) (m : Str) (sp : Nat → Sp) (E : L2.St → XK) (ta : TE) (t : TA) : TE := fun σ H Q => ta σ H fun x H1 => ∃ c a dx fs, c ≤ 2 ∧ x = .ref a ∧ H1 a = some (.ins (T.ad c) dx fs) ∧ fs.lookup m = none ∧ t σ H1 fun vs H2 => sp c (x :: vs) H2 Q (E σ)
theorem pe_methD {k : Nat} {m : Str} {ta : TE} {t : TA} {sp : Nat → Sp} {CX : CXT} {E : L2.St → XK} {pl : Sem Bool} (he : PE X o ta) (ocs : Oc3 X.K X.mg T) (Fs : ∀ c, c ≤ 2 → ∃ f fd ps, FnGd X.prog X.w X.K X.mg X.base CX k f fd ps (sp c) ∧ Meth X.K (T.ad c) m f ∧ Binds X.K fd ps [])
    (hq : X.A.guards = some []) (hr : Room k X.A) (hx : ∀ σ, PassesAt CX X σ (E σ)) (ha : PA X (e :: es) t)
    (hst : starEach (e :: es) X.env = (false, eval e X.env) :: starEach es X.env := by rfl) (hpl : (backTo pos (starEach es X.env)).any (·.1) = false := by rfl)
    (ht : eval (.Call (.Attribute o m apos) (e :: es) [] pos) X.env = (do
      let ov ← eval o X.env
      standAt apos.atName
      let (f, first) ← holding [ov] (getMethod ov m pl)
      callWith pos f first (backTo pos (starEach (e :: es) X.env)) (backToKw pos (keywordEach [] X.env))) := by rfl) :
    PE X (.Call (.Attribute o m apos) (e :: es) [] pos) (tMethD T m sp E ta t) := by
  refine ⟨fun pins s σ H Q I h => ?_⟩
  refine PySem.W.methodCall_KW (pl := pl) (thn (he.run pins s σ H _ I h) fun u s1 ⟨x, H1, I1, rx, c, a, dx, fs, hc, ex, ea, l, q⟩ => ?_) ht
  subst ex
  obtain rfl : u = Value.ref a := rx
  obtain ⟨f, fd, ps, F, hm, hb⟩ := Fs c hc
  obtain ⟨_, oc⟩ := ocs c hc
  refine getmeth_ok I1 ea oc.cl hm l ?_
  refine PySem.W.callWith_K (first := [.ref a]) (h₀ := X.base) I.ok.mod.kin hm.kp (thn (ha.run pos pins s1 σ H1 _ I1 q) fun us s2 ⟨vs, H2, I2, r, q2⟩ => ⟨I2.kIn, ?_⟩) hst hpl
  exact go_in (us := .ref a :: us) (xs := .ref a :: vs) F hq hr hb (hx σ) I2 (.cons rfl r) q2
theorem noflds (c : Nat) : ("shows" : Str) ∉ clsFlds c := by
  match c with
  | 0 => decide +kernel
  | 1 => decide +kernel
  | _ + 2 => show ("shows" : Str) ∉ (["heap", "ways"] : List Str); decide +kernel
theorem ve_met {k n : Nat} {ms : Nat → List SV → R} {pl : Sem Bool} (ocs : Oc3 X.K X.mg T) (Fs : FnSh X.prog X.w X.K X.mg X.base T k "shows" n ms) (hr : Room k X.A) (C : Cv X T EX B) (he : VE X T EX B o f) (ha : VA X T EX B (e :: es) gs)
    (hst : starEach (e :: es) X.env = (false, eval e X.env) :: starEach es X.env := by rfl) (hpl : (backTo pos (starEach es X.env)).any (·.1) = false := by rfl)
    (ht : eval (.Call (.Attribute o "shows" apos) (e :: es) [] pos) X.env = (do
      let ov ← eval o X.env
      standAt apos.atName
      let (f, first) ← holding [ov] (getMethod ov "shows" pl)
      callWith pos f first (backTo pos (starEach (e :: es) X.env)) (backToKw pos (keywordEach [] X.env))) := by rfl) :
    VE X T EX B (.Call (.Attribute o "shows" apos) (e :: es) [] pos) (vMet n ms f gs) := by
  refine pe_weak (pe_methD (sp := fun c => spV T n (ms c)) (E := fun _ => EX) he ocs Fs C.gd hr (fun σ pn H s e s' => C.pass pn σ H s e s') ha hst hpl ht) fun σ H Q q => ?_
  obtain ⟨G, env, S, o⟩ := q
  refine rdV_mono (seqV S o) fun v H1 ⟨w, G1, s, rp, S1, o1⟩ => ?_
  split at o1
  rotate_left
  · exact o1.elim
  rename_i c fs
  split at o1
  rotate_left
  · exact o1.elim
  rename_i hc
  obtain ⟨a', dx, vs, rfl, e1, e2, l, dq⟩ := ObRp.inv rp (by omega)
  obtain ⟨_, oc⟩ := ocs c hc
  refine ⟨c, a', dx, _, hc, rfl, S1.gh _ _ e1, zip_none (by rw [oc.fl]; exact noflds c), args_seq S1 o1 fun vs as G2 H2 s2 rp2 S2 o2 => ?_⟩
  split at o2
  · rename_i z
    exact ⟨G2, .ob c fs :: as, S2.gh, S2.st.nm S2.nb.1, S2.mo, .cons (ObRp.mono rp s2.gg) rp2, z, o2⟩
  · exact o2.elim
end
end VL
namespace VL
open PySem L2
/-! ### objects are made -/
/-- what __init__ promises: the new object's fields, new lists of their own among them -/
def spN (T : Ct) (c : Nat) (mk : List D → Option (List RD)) : Sp := fun vs H Q E => ∃ x dx G ys ds rs, vs = .ref x :: ys ∧ H x = some (.ins (T.ad c) dx []) ∧ H dx = some (.own x) ∧ Same G H ∧ G x = none ∧ DqAll G ys ds ∧ mk ds = some rs ∧ ys.length + 1 = (T.fl c).length + 1 ∧
  ∀ S us H', (∀ b o, b ≠ x → H b = some o → H' b = some o) → H' x = some (.ins (T.ad c) dx ((T.fl c).zip us)) → us.length = (T.fl c).length → S.Nodup → (∀ a ∈ S, H a = none) → RRpAll T G H' S us rs → Q .non H'
@[simp] def newM (c : Nat) (mk : List D → Option (List RD)) : List SV → R := fun as => match dats as with
  | some ds => (match mk ds with
    | some rs => if ds.length = (clsFlds c).length then .val (.rg (.ins c rs)) else .stuck
    | none => .stuck)
  | none => .stuck
@[simp] def asLst : D → Option (List D)
  | .list ds => some ds
  | _ => none
@[simp] def asLsts : List D → Option (List (List D))
  | [] => some []
  | d :: r => match asLst d, asLsts r with
    | some x, some y => some (x :: y)
    | _, _ => none
@[simp] def mk1 : List D → Option (List RD)
  | [.list ds] => some [.lst (ds.map .dat)]
  | _ => none
def lstR (ds : List D) : RD := .lst (ds.map .dat)
@[simp] def mk2 : List D → Option (List RD)
  | [h, .list ws] => if ws.length ≤ 100000 then (asLsts ws).map fun wss => [.dat h, .lst (wss.map lstR)] else none
  | _ => none
theorem toDs_dat : ∀ ds : List D, RD.toDs (ds.map .dat) = some ds
  | [] => by simp only [List.map_nil, RD.toDs]
  | d :: r => by simp only [List.map_cons, RD.toDs, RD.toD, toDs_dat r]
theorem toDs_lstR : ∀ wss : List (List D), RD.toDs (wss.map lstR) = some (wss.map .list)
  | [] => by simp only [List.map_nil, RD.toDs]
  | d :: r => by simp only [List.map_cons, RD.toDs, lstR, RD.toD, toDs_dat d, Option.map_some]; rw [show (r.map lstR) = r.map lstR from rfl, toDs_lstR r]
theorem dats_rrp {T : Ct} {G H : Hp} : ∀ {ds : List D} {xs : List V}, DqAll G xs ds → RRpAll T G H [] xs (ds.map .dat)
  | [], _, q => by rw [q.inv0]; exact .nil
  | d :: ds, _, q => by
    obtain ⟨v, vs, rfl, q1, q2⟩ := q.inv
    exact .cons (S := []) (S' := []) (.dat q1) (dats_rrp q2)
theorem RRpAll.snoc {T : Ct} {G H : Hp} {S' : List Addr} {v : V} {r : RD} (h : RRp T G H S' v r) : ∀ {rs : List RD} {S : List Addr} {vs : List V}, RRpAll T G H S vs rs → RRpAll T G H (S ++ S') (vs ++ [v]) (rs ++ [r])
  | _, _, _, .nil => by simpa using RRpAll.cons h .nil
  | _, _, _, .cons a b => by
    rw [List.append_assoc, List.cons_append, List.cons_append]
    exact .cons a (RRpAll.snoc h b)
section
variable {X : Cx} {CX : CXT} {k : Nat} {f C : Addr} {fd : FuncData} {ps : List Str} {sp : Sp} {x m : Str} {p pos apos : Pos} {e o : Expr} {es : List Expr} {ta : TE} {t : TA} {E : L2.St → XK}
theorem run_makeG {pins : List (Addr × Obj)} {σ : L2.St} {H : Hp} {s : Shared} {Q : VK} {us : List Value} {vs : List V} (M : Mk X.K C f) (F : FnGd X.prog X.w X.K X.mg X.base CX k f fd ps sp) (hq : X.A.guards = some []) (hr : Room (k + 1) X.A) (hb : Binds X.K fd ps [])
    (hx : PassesAt CX X σ (E σ)) (hxm : ∀ pins H s e s', Inv X pins σ H s → CX X.stack H s (E σ) e s' → X.xe e s') (I : Inv X pins σ H s) (r : Vals vs us)
    (h : ∀ x dx, H x = none → H dx = none → dx ≠ x → sp (.ref x :: vs) (upd (upd H dx (.own x)) x (.ins C dx [])) (fun v H2 => v = .non ∧ Q (.ref x) H2) (E σ)) :
    wpAny (model X.prog X.w) X.A (call (.ref C) us) (EP X pins σ Q) X.xe s := by
  have hz := h (s.heap.objs.size + 1) s.heap.objs.size (I.hok.fresh (Nat.le_succ _)) (I.hok.fresh (Nat.le_refl _)) (Nat.ne_of_lt (Nat.lt_succ_self _))
  have I2 := Inv.made (C := C) I
  have r2 : Vals (V.ref (s.heap.objs.size + 1) :: vs) (Value.ref (s.heap.objs.size + 1) :: us) := .cons rfl r
  have hl : (Value.ref (s.heap.objs.size + 1) :: us).length = ps.length := by
    have e := r2.length
    rw [F.ln _ _ _ _ hz] at e
    exact e.symm
  have n2 := hb _ (Value.ref (s.heap.objs.size + 1) :: us) I2.kIn (by rw [List.append_nil]; exact hl)
  rw [List.append_nil] at n2
  refine wpAny_call (make_map (f := f) I.kIn M.makes M.init (beq_iff_eq.mp M.fn) (codeAny_mono (F.go _ X.stack _ _ ⟨Value.ref (s.heap.objs.size + 1) :: us, []⟩ (Value.ref (s.heap.objs.size + 1) :: us) _ _ (E σ) (by exact hq) (hr.make C us [])
    (I2.env0.make C us []) n2 r2 hz) fun r s' hq' => ?_))
  cases r with
  | error e => exact hxm pins _ _ e s' I2 hq'
  | ok fl =>
    cases fl with
    | ret u =>
      obtain ⟨v, H', I3, rv, ev, q3⟩ := I2.after hq'
      subst ev
      exact ⟨rv, ⟨V.ref (s.heap.objs.size + 1), H', I3, rfl, q3⟩⟩
    | next => exact False.elim hq'
    | brk => exact False.elim hq'
    | cont => exact False.elim hq'
def tMakeG (C : Addr) (sp : Sp) (E : L2.St → XK) (t : TA) : TE := fun σ H Q => t σ H fun vs H1 => ∀ x dx, H1 x = none → H1 dx = none → dx ≠ x →
  sp (.ref x :: vs) (upd (upd H1 dx (.own x)) x (.ins C dx [])) (fun v H2 => v = .non ∧ Q (.ref x) H2) (E σ)
theorem pe_makeG (M : Mk X.K C f) (F : FnGd X.prog X.w X.K X.mg X.base CX k f fd ps sp) (hq : X.A.guards = some []) (hr : Room (k + 1) X.A) (hg : Gl X x) (hm : X.mg x = some (.ref C)) (hb : Binds X.K fd ps []) (hx : ∀ σ, PassesAt CX X σ (E σ))
    (ha : PA X (e :: es) t) (hdb : (x == ("__debug__" : Str)) = false := by decide) (he : starEach (e :: es) X.env = (false, eval e X.env) :: starEach es X.env := by rfl) (hpl : (backTo pos (starEach es X.env)).any (·.1) = false := by rfl) :
    PE X (.Call (.Name x p) (e :: es) [] pos) (tMakeG C sp E t) := by
  refine ⟨fun pins s σ H Q I h => ?_⟩
  refine wpAny_Call_Name_kw (ld_glob I hg hm ?_ hdb)
  refine PySem.W.callWith_K (h₀ := X.base) I.ok.mod.kin M.kp (thn (ha.run pos pins s σ H _ I h) fun us s1 ⟨vs, H1, I1, r, q⟩ => ⟨I1.kIn, ?_⟩) he hpl
  exact run_makeG M F hq hr hb (hx σ) (fun pins H s e s' I z => hx σ pins H s e s' I z) I1 r q
/-- C() of a class without an __init__ -/
def tMake0 (C : Addr) : TE := fun σ H Q => ∀ x dx, H x = none → H dx = none → dx ≠ x → Q (.ref x) (upd (upd H dx (.own x)) x (.ins C dx []))
theorem pe_make00 (mk : PySem.W.makesIn X.K C = true) (kp : PySem.W.keepIn X.K (.ref C) = true) (hi : PySem.W.findIn X.K (.ref C) "__init__" = some (some (.builtin "object.__init__"))) (top : PySem.W.mroIn X.K C (.type "object") = some true) (hg : Gl X x) (hm : X.mg x = some (.ref C)) (hdb : (x == ("__debug__" : Str)) = false := by decide) :
    PE X (.Call (.Name x p) [] [] pos) (tMake0 C) := by
  refine ⟨fun pins s σ H Q I h => ?_⟩
  refine wpAny_Call_Name_kw (ld_glob I hg hm ?_ hdb)
  refine PySem.W.callWith_K0 I.kIn kp (wpAny_call (make_map0 I.kIn mk hi (fun self => PySem.W.Looks.of_pure (PySem.W.oi_bind self)) ?_))
  have I2 := Inv.made (C := C) I
  have hz := h (s.heap.objs.size + 1) s.heap.objs.size (I.hok.fresh (Nat.le_succ _)) (I.hok.fresh (Nat.le_refl _)) (Nat.ne_of_lt (Nat.lt_succ_self _))
  have e2 : ((s.heap.push PySem.W.emptyDict).push (PySem.W.instObj C s.heap.objs.size)).get? (s.heap.objs.size + 1) = some (PySem.W.instObj C s.heap.objs.size) := by
    have := Heap.get?_push_size (s.heap.push PySem.W.emptyDict) (o := PySem.W.instObj C s.heap.objs.size) rfl
    rwa [Heap.size_push] at this
  have t1 : PySem.W.Looks (model X.prog X.w) ((s.heap.push PySem.W.emptyDict).push (PySem.W.instObj C s.heap.objs.size)) (typeOf (.ref (s.heap.objs.size + 1))) (.ref C) := (PySem.W.Looks.ld e2).andThen .now
  have t2 : PySem.W.Looks (model X.prog X.w) ((s.heap.push PySem.W.emptyDict).push (PySem.W.instObj C s.heap.objs.size)) (isInstance (.ref (s.heap.objs.size + 1)) (.type "object")) true := t1.andThen (PySem.W.looks_mroIn I2.kIn top)
  refine PySem.codeAny_call_builtin PySem.W.oi_plain PySem.W.entry_oi (@PySem.W.check_slot (model X.prog X.w) _ _ _ "object.__init__" "object" "__init__" (.ref (s.heap.objs.size + 1)) [] [] _ PySem.W.oi_kind PySem.W.oi_split t2 (PySem.W.oi_args (.ref (s.heap.objs.size + 1))) ?_)
  rw [PySem.W.oi_run]
  exact wpAny_pure (And.intro rfl ⟨V.ref (s.heap.objs.size + 1), _, I2, rfl, hz⟩)
end
end VL
namespace VL
open PySem L2
def FnN (P : Program) (w : World) (K : PySem.W.Frag) (mg : Str → Option Value) (base : Heap) (T : Ct) (k : Nat) (c : Nat) (m : List FE → FE) : Prop :=
  ∃ f fd ps mk, Mk K (T.ad c) f ∧ FnGd P w K mg base (L2.CX P w) 1 f fd ps (spN T c mk) ∧ Binds K fd ps [] ∧ ((2 ≤ k ∧ m = fun fs env => (evA fs env).b (newM c mk)) ∨ m = fun _ _ => .stuck)
section
variable {X : Cx} {T : Ct} {EX : XK} {B : Hp × Hp} {e : Expr} {es : List Expr} {pos p : Pos} {fs : List FE}
theorem ve_new {x : Str} {c k : Nat} {m : List FE → FE} (oc : Oc X.K X.mg T x c) (N : FnN X.prog X.w X.K X.mg X.base T k c m) (hr : Room k X.A) (hg : Gl X x) (C : Cv X T EX B) (ha : VA X T EX B (e :: es) fs)
    (hd : (x == ("__debug__" : Str)) = false := by decide) (hs : starEach (e :: es) X.env = (false, eval e X.env) :: starEach es X.env := by rfl) (hpl : ((backTo pos (starEach es X.env)).any fun z => z.1) = false := by rfl) :
    VE X T EX B (.Call (.Name x p) (e :: es) [] pos) (m fs) := by
  obtain ⟨f, fd, ps, mk, M, F, hb, h | h⟩ := N
  rotate_left
  · subst h
    exact ⟨fun pins s σ H Q I ⟨G, env, S, o⟩ => o.elim⟩
  obtain ⟨hk, rfl⟩ := h
  refine pe_weak (pe_makeG (E := fun _ => EX) M F C.gd (hr.mono hk) hg oc.mgC hb (fun σ pn H s e s' => C.pass pn σ H s e s') ha hd hs hpl) fun σ H Q q => ?_
  obtain ⟨G, env, S, o⟩ := q
  refine args_seq S o fun vs as G1 H1 s1 rp S1 o1 x dx hx hdx ne => ?_
  unfold newM at o1
  split at o1
  rotate_left
  · exact o1.elim
  rename_i ds ed
  split at o1
  rotate_left
  · exact o1.elim
  rename_i rs er
  split at o1
  rotate_left
  · exact o1.elim
  rename_i ln
  have dq := dats_ok rp ed
  have hx2 : (upd (upd H1 dx (.own x)) x (.ins (T.ad c) dx [])) x = some (.ins (T.ad c) dx []) := upd_same
  have hdx2 : (upd (upd H1 dx (.own x)) x (.ins (T.ad c) dx [])) dx = some (.own x) := by rw [upd_ne ne, upd_same]
  have old : ∀ b o, H1 b = some o → (upd (upd H1 dx (.own x)) x (.ins (T.ad c) dx [])) b = some o := fun b o e => by
    rw [upd_ne (ne_of_none e hx), upd_ne (ne_of_none e hdx)]; exact e
  refine ⟨x, dx, G1, vs, ds, rs, rfl, hx2, hdx2, fun b o e => old b o (S1.gh b o e), same_none S1.gh hx, dq, er, by rw [dq.length, oc.fl, ln], fun F us H' kp hx' l nd nw ra => ⟨rfl, o1 (.ref x) (x :: dx :: F) G1 H' ⟨.of fun b o e => ?_, Same.refl _, fun b o e => ?_, fun _ a b => absurd a b, fun n => n⟩ ?_ ?_ ?_⟩⟩
  · exact kp b o (ne_of_none e hx) (old b o e)
  · have := S1.gh b o e
    exact kp b o (ne_of_none this hx) (old b o this)
  · refine List.nodup_cons.mpr ⟨fun z => ?_, List.nodup_cons.mpr ⟨fun z => ?_, nd⟩⟩
    · rcases List.mem_cons.mp z with z | z
      · exact ne z.symm
      · have := nw x z; rw [hx2] at this; cases this
    · have := nw dx z; rw [hdx2] at this; cases this
  · intro a m
    have : H1 a = none := by
      rcases List.mem_cons.mp m with rfl | m
      · exact hx
      rcases List.mem_cons.mp m with rfl | m
      · exact hdx
      · cases q : H1 a with
        | none => rfl
        | some o => have z := nw a m; rw [old a o q] at z; cases z
    exact ⟨same_none S1.gh this, this⟩
  · exact .ins hx' (kp dx _ ne hdx2) l ra
@[simp] def vNew0 (c : Nat) : FE := fun _ => .val (.rg (.ins c []))
theorem ve_new0 {x : Str} (c : Nat) (oc : Oc X.K X.mg T x c) (hi : PySem.W.findIn X.K (.ref (T.ad c)) "__init__" = some (some (.builtin "object.__init__"))) (hg : Gl X x) (hf : clsFlds c = [] := by rfl) (hd : (x == ("__debug__" : Str)) = false := by decide) :
    VE X T EX B (.Call (.Name x p) [] [] pos) (vNew0 c) := pe_weak (pe_make00 oc.mks oc.kp hi oc.hm hg oc.mgC hd) fun σ H Q q => by
  obtain ⟨G, env, S, o⟩ := q
  intro x dx hx hdx ne
  refine o (.ref x) [x, dx] G _ ⟨.of fun b o e => ?_, Same.refl _, fun b o e => ?_, fun _ a b => absurd a b, fun n => n⟩ (by simp [ne.symm]) (fun a m => ?_) (.ins (vs := []) (S := []) (by rw [upd_same, oc.fl, hf]; rfl) (by rw [upd_ne ne, upd_same]) (by rw [oc.fl, hf]; rfl) .nil)
  · rw [upd_ne (ne_of_none e hx), upd_ne (ne_of_none e hdx)]; exact e
  · have := S.gh b o e
    rw [upd_ne (ne_of_none this hx), upd_ne (ne_of_none this hdx)]; exact this
  · have : H a = none := by
      rcases List.mem_cons.mp m with rfl | m
      · exact hx
      · rw [List.mem_singleton.mp m]; exact hdx
    exact ⟨same_none S.gh this, this⟩
end
/-! ### .. by __init__ -/
abbrev rList (K : PySem.W.Frag) : List V → Hp → VK → Prop := fun xs H Q => ∃ p ys, xs = [.ref p] ∧ (SqL K H p ys ∨ SqT K H p ys) ∧ ∀ l, H l = none → Q (.ref l) (upd H l (.lst ys))
section
variable {K : PySem.W.Frag} {mg : Str → Option Value} {T : Ct} {vs : List V} {H : Hp} {Q : VK} {E : XK}
theorem spN_len {c : Nat} {mk : List D → Option (List RD)} {n : Nat} (hn : (T.fl c).length + 1 = n) : ∀ xs H Q E, spN T c mk xs H Q E → xs.length = n := by
  rintro xs H Q E ⟨x, dx, G, ys, ds, rs, rfl, _, _, _, _, _, _, l, _⟩
  rw [List.length_cons]; omega
theorem init1_rd (oc : Oc K mg T "Slants" 1) (h : spN T 1 mk1 vs H Q E) : sFld K (tVar 0) (tCB (rList K) (tCons (tVar 1) tNil)) "way" { nx := fun _ H' => Q .non H', rt := Q } (start ["self", "way"] vs) H := by
  obtain ⟨x, dx, G, ys, ds, rs, rfl, hx, hdx, gh, gx, dq, em, l, q⟩ := h
  have fl : T.fl 1 = (["way"] : List Str) := oc.fl
  rw [fl] at l
  match ys, l with
  | [y], _ =>
    obtain ⟨d, ds', rfl⟩ : ∃ d ds', ds = d :: ds' := by
      cases ds with
      | nil => exact absurd dq.length (by simp)
      | cons d r => exact ⟨d, r, rfl⟩
    obtain ⟨v, vs', e, q1, q2⟩ := dq.inv
    cases e
    have e0 : ds' = [] := by
      have := q2.length
      cases ds' with
      | nil => rfl
      | cons _ _ => simp at this
    subst e0
    unfold mk1 at em
    split at em
    rotate_left
    · cases em
    rename_i ds z
    cases z
    cases em
    obtain ⟨b, xs, rfl, s1, q1⟩ := q1.lstH gh
    refine ⟨.ref b, rfl, b, xs, rfl, .inl (sqL_K s1), fun p hp => ⟨.ref x, rfl, x, T.ad 1, dx, [], rfl, ?_, oc.cl, oc.na "way" (by exact List.mem_cons_self), by simp, ?_⟩⟩
    · rw [upd_ne (ne_of_none hx hp)]; exact hx
    · have px : p ≠ x := (ne_of_none hx hp).symm
      refine q [p] [.ref p] _ (fun c o nx e => ?_) ?_ (by rw [fl]; rfl) (by simp) (fun a m => by rw [List.mem_singleton.mp m]; exact hp) ?_
      · rw [upd_ne nx, upd_ne (ne_of_none e hp)]; exact e
      · rw [upd_same, fl]; rfl
      · exact .cons (S := [p]) (S' := []) (.lst (S := []) (vs := xs) (by rw [upd_ne px, upd_same]) (dats_rrp q1)) .nil
theorem asLsts_map : ∀ {ws : List D} {wss : List (List D)}, asLsts ws = some wss → ws = wss.map .list
  | [], _, h => by simp only [asLsts] at h; cases h; rfl
  | d :: r, _, h => by
    simp only [asLsts] at h
    split at h
    · rename_i x y e1 e2
      cases h
      have : d = .list x := by
        cases d <;> simp only [asLst] at e1 <;> cases e1
        rfl
      rw [List.map_cons, ← asLsts_map e2, this]
    · cases h
/-- [list(w) for w in ws]: a list of lists, all new -/
theorem lc_lists {G H1 : Hp} {l D : Addr} {xs : List V} {wss : List (List VL.D)} {σ : L2.St} {i : Nat} {Qd : Hp → Prop} (hi : i < σ.length) (gh : Same G H1) (s1 : SqL [] H1 l xs) (dq : DqAll G xs (wss.map .list)) (hD : H1 D = none) (hw : wss.length ≤ 100000)
    (hd : ∀ Hc acc S, (∀ b o, H1 b = some o → Hc b = some o) → Hc D = some (.lst acc) → RRpAll T G Hc S acc (wss.map lstR) → S.Nodup → D ∉ S → (∀ a ∈ S, H1 a = none) → Qd Hc) :
    ∃ W : Nat → Nat → Hp → Prop, (∃ m, W 0 m (upd H1 D (.lst []))) ∧ ∀ j m H, W j m H →
      ((Itl K l).stop j H ∧ Qd H) ∨ ((Itl K l).go j H ∧ ∃ Nx : Hp → Prop, (∀ H', Nx H' → ∃ m', m' < m ∧ W (j + 1) m' H') ∧ ∀ x H', (Itl K l).yld j H x H' → gName i x (wipe σ [i]) H' fun σ2 H2 => wipe σ2 [i] = wipe σ [i] ∧ tYes σ2 H2 fun b H3 =>
        if b = true then tCB (rList K) (tCons (tVar i) tNil) σ2 H3 fun y H4 => ∃ acc, H4 D = some (.lst acc) ∧ acc.length < sizeLine ∧ Nx (upd H4 D (.lst (acc ++ [y]))) else Nx H3) := by
  have lx : xs.length = wss.length := by rw [dq.length, List.length_map]
  refine lc_list (K := K) (a := l) (xs := xs) (fun j Hc => ∃ acc S, (∀ b o, H1 b = some o → Hc b = some o) ∧ Hc D = some (.lst acc) ∧ RRpAll T G Hc S acc ((wss.take j).map lstR) ∧ S.Nodup ∧ D ∉ S ∧ (∀ a ∈ S, H1 a = none) ∧ acc.length ≤ j) ?_ ?_ ?_ ?_
  · refine ⟨[], [], fun b o e => ?_, upd_same, .nil, List.nodup_nil, List.not_mem_nil, fun a m => absurd m List.not_mem_nil, Nat.zero_le _⟩
    rw [upd_ne (ne_of_none e hD)]; exact e
  · rintro j Hc _ ⟨acc, S, h1, _⟩
    rcases s1 with (s1 | ⟨o, s1⟩) | ⟨o, its, n, hk, _⟩
    · exact .inl (.inl (h1 _ _ s1))
    · exact .inl (.inr ⟨o, h1 _ _ s1⟩)
    · cases hk
  · rintro j x Hc hx ⟨acc, S, h1, h2, h3, h4, h5, h6, h7⟩
    have hj : j < xs.length := (List.getElem?_eq_some_iff.mp hx).1
    have ew : wss[j]? = some wss[j] := List.getElem?_eq_getElem (by omega)
    obtain ⟨v, hv, dv⟩ := dq.get (i := j) (d := .list wss[j]) (by rw [List.getElem?_map, ew]; rfl)
    rw [hx] at hv
    cases hv
    obtain ⟨b, ys, rfl, s2, q2⟩ := dv.lstH gh
    have hi2 : i < (wipe σ [i]).length := by rw [wipe_length]; exact hi
    have s3 : SqL [] Hc b ys := by
      rcases s2 with (s2 | ⟨o, s2⟩) | ⟨o, its, n, hk, _⟩
      · exact .inl (.inl (h1 _ _ s2))
      · exact .inl (.inr ⟨o, h1 _ _ s2⟩)
      · cases hk
    refine ⟨wipe_eq (is := [i]) SetIn.one (fun z m => m), ?_⟩
    unfold tYes
    dsimp only
    rw [if_pos rfl]
    refine ⟨.ref b, List.getElem?_set_self hi2, b, ys, rfl, .inl (sqL_K s3), fun p hp => ⟨acc, ?_, ?_, acc ++ [.ref p], S ++ [p], fun c o e => ?_, upd_same, ?_, ?_, ?_, ?_, ?_⟩⟩
    · rw [upd_ne (ne_of_none h2 hp)]; exact h2
    · exact gl_line (by omega)
    · have := h1 c o e
      rw [upd_ne (ne_of_none e hD), upd_ne (ne_of_none this hp)]; exact this
    · have pD : p ≠ D := (ne_of_none h2 hp).symm
      have k : ∀ a ∈ S, (upd (upd Hc p (.lst ys)) D (.lst (acc ++ [.ref p]))) a = Hc a := fun a m => by
        obtain ⟨o, ea, _⟩ := RRpAll.at _ _ _ h3 a m
        rw [upd_ne (show a ≠ D from fun z => h5 (z ▸ m)), upd_ne (ne_of_none ea hp)]
      have h3' := RRpAll.mono (T' := T) (Same.refl G) rfl rfl _ _ _ h3 k
      have hp' : (upd (upd Hc p (.lst ys)) D (.lst (acc ++ [.ref p]))) p = some (.lst ys) := by rw [upd_ne pD, upd_same]
      have e1 : (wss.take (j + 1)).map lstR = (wss.take j).map lstR ++ [lstR wss[j]] := by
        rw [List.take_succ, ew, List.map_append]; rfl
      rw [e1]
      exact RRpAll.snoc (S' := [p]) (.lst (S := []) hp' (dats_rrp q2)) h3'
    · refine List.nodup_append.mpr ⟨h4, by simp, fun a m c mc => ?_⟩
      rw [List.mem_singleton.mp mc]
      obtain ⟨o, ea, _⟩ := RRpAll.at _ _ _ h3 a m
      exact ne_of_none ea hp
    · intro m
      rcases List.mem_append.mp m with m | m
      · exact h5 m
      · rw [List.mem_singleton.mp m] at h2; rw [hp] at h2; cases h2
    · intro a m
      rcases List.mem_append.mp m with m | m
      · exact h6 a m
      · rw [List.mem_singleton.mp m]
        cases q : H1 p with
        | none => rfl
        | some o => have := h1 p o q; rw [hp] at this; cases this
    · rw [List.length_append, List.length_singleton]; omega
  · rintro Hc ⟨acc, S, h1, h2, h3, h4, h5, h6, h7⟩
    rw [List.take_of_length_le (by omega)] at h3
    exact hd Hc acc S h1 h2 h3 h4 h5 h6
theorem init2_rd (oc : Oc K mg T "Leaned" 2) (h : spN T 2 mk2 vs H Q E) : tSeq (sFld K (tVar 0) (tVar 1) "heap") (sFld K (tVar 0) (tLc (iList K (tVar 2)) (gName 3) tYes (tCB (rList K) (tCons (tVar 3) tNil)) [3]) "ways") { nx := fun _ H' => Q .non H', rt := Q } (start ["self", "heap", "ways", "way"] vs) H := by
  obtain ⟨x, dx, G, ys, ds, rs, rfl, hx, hdx, gh, gx, dq, em, l, q⟩ := h
  have fl : T.fl 2 = (["heap", "ways"] : List Str) := oc.fl
  rw [fl] at l
  match ys, l with
  | [y, z], _ =>
    obtain ⟨d, d2, rfl⟩ : ∃ d d2, ds = [d, d2] := by
      have := dq.length
      match ds, this with
      | [d, d2], _ => exact ⟨d, d2, rfl⟩
    obtain ⟨v, vs', e, q1, q2⟩ := dq.inv
    cases e
    obtain ⟨v2, vs2, e, q3, q4⟩ := q2.inv
    cases e
    unfold mk2 at em
    split at em
    rotate_left
    · cases em
    rename_i h0 ws0 z0
    cases z0
    split at em
    rotate_left
    · cases em
    rename_i hwl
    obtain ⟨wss, ew, rfl⟩ := Option.map_eq_some_iff.mp em
    have ews := asLsts_map ew
    subst ews
    obtain ⟨b, xs, rfl, s1, q5⟩ := q3.lstInv
    have gh1 : Same G (upd H x (.ins (T.ad 2) dx [("heap", y)])) := fun c o e => by
      rw [upd_ne (ne_of_none e gx)]; exact gh c o e
    refine ⟨y, rfl, .ref x, rfl, x, T.ad 2, dx, [], rfl, hx, oc.cl, oc.na "heap" (by exact List.mem_cons_self), by simp, ?_⟩
    refine ⟨.ref b, rfl, b, rfl, ⟨xs, sqL_K (gh1.seq s1)⟩, fun D hD => ?_⟩
    have Dx : D ≠ x := fun z => by rw [z, upd_same] at hD; cases hD
    refine lc_lists (T := T) (K := K) (G := G) (xs := xs) (wss := wss) (i := 3) (by simp [L2.start]) gh1 (gh1.seq s1) q5 hD (by rw [List.length_map] at hwl; exact hwl) fun Hc acc S h1 h2 h3 h4 h5 h6 => ?_
    have hxc : Hc x = some (.ins (T.ad 2) dx [("heap", y)]) := h1 x _ upd_same
    have hS : ∀ a ∈ S, a ≠ x := fun a m z => by
      have := h6 a m
      rw [z, upd_same] at this; cases this
    refine ⟨.ref x, rfl, x, T.ad 2, dx, _, rfl, hxc, oc.cl, oc.na "ways" (by exact List.mem_cons_of_mem _ List.mem_cons_self), by simp, ?_⟩
    refine q (D :: S) [y, .ref D] _ (fun c o nx e => ?_) ?_ (by rw [fl]; rfl) (List.nodup_cons.mpr ⟨h5, h4⟩) (fun a m => ?_) ?_
    · rw [upd_ne nx]
      exact h1 c o (by rw [upd_ne nx]; exact e)
    · rw [upd_same, fl]
      rfl
    · rcases List.mem_cons.mp m with rfl | m
      · rw [upd_ne Dx] at hD; exact hD
      · have := h6 a m
        rw [upd_ne (hS a m)] at this; exact this
    · have h3' := RRpAll.mono (T' := T) (H' := upd Hc x (.ins (T.ad 2) dx (putF "ways" (.ref D) [("heap", y)]))) (Same.refl G) rfl rfl _ _ _ h3 fun a m => upd_ne (hS a m)
      have z := RRpAll.cons (T := T) (G := G) (RRp.lst (S := S) (vs := acc) ((upd_ne Dx).trans h2) h3') .nil
      rw [List.append_nil] at z
      exact RRpAll.cons (S := []) (S' := D :: S) (.dat q1) z
end
end VL
namespace VL
open PySem L2
/-! ### a class's defs -/
def Dm (K : PySem.W.Frag) (T : Ct) (c : Nat) (x q : Str) (st : Stmt) (ps : List Str) : Prop := ∃ f fd, Fun K x q st f fd ∧ Meth K (T.ad c) x f ∧ Binds K fd ps []
def Di (K : PySem.W.Frag) (T : Ct) (c : Nat) (q : Str) (st : Stmt) (ps : List Str) : Prop := ∃ f fd, Fun K "__init__" q st f fd ∧ Mk K (T.ad c) f ∧ Binds K fd ps []
def FnC (P : Program) (w : World) (K : PySem.W.Frag) (mg : Str → Option Value) (base : Heap) (T : Ct) (k c : Nat) (x : Str) (n : Nat) (m : List SV → R) : Prop :=
  ∃ f fd ps, FnGd P w K mg base (L2.CX P w) k f fd ps (spV T n m) ∧ Meth K (T.ad c) x f ∧ Binds K fd ps []
def FnI (P : Program) (w : World) (K : PySem.W.Frag) (mg : Str → Option Value) (base : Heap) (T : Ct) (c : Nat) (mk : List D → Option (List RD)) : Prop :=
  ∃ f fd ps, Mk K (T.ad c) f ∧ FnGd P w K mg base (L2.CX P w) 1 f fd ps (spN T c mk) ∧ Binds K fd ps []
def nwM (c : Nat) (mk : List D → Option (List RD)) : Nat → List FE → FE
  | 0 => fun _ _ => .stuck
  | 1 => fun _ _ => .stuck
  | _ + 2 => fun fs env => (evA fs env).b (newM c mk)
theorem nwM_eq {c : Nat} {mk : List D → Option (List RD)} {k : Nat} (h : 2 ≤ k) : nwM c mk k = fun fs env => (evA fs env).b (newM c mk) := by
  obtain ⟨j, rfl⟩ : ∃ j, k = j + 2 := ⟨k - 2, by omega⟩
  rfl
section
variable {P : Program} {w : World} {K : PySem.W.Frag} {mg : Str → Option Value} {base : Heap} {T : Ct}
theorem fnC_mk {x q : Str} {st : Stmt} {N ps : List Str} {k c : Nat} {s : FS} (d : Dm K T c x q st ps) (S : FnScope N ps (defScope st)) (hb : Bd P w K mg base T k N q st s) : FnC P w K mg base T (k + 1) c x ps.length (runB N.length s) := by
  obtain ⟨f, fd, F, hm, hbi⟩ := d
  exact ⟨f, fd, ps, fn_ok F S fun cdv A outer s0 H E B hr C po tk => hb f cdv A outer s0 H E B hr C po tk, hm, hbi⟩
theorem fnC_zero {x q : Str} {st : Stmt} {ps : List Str} {n c : Nat} {m : List SV → R} (d : Dm K T c x q st ps) (h : m = fun _ => .stuck) : FnC P w K mg base T 0 c x n m := by
  obtain ⟨f, fd, F, hm, hbi⟩ := d
  subst h
  have no : ∀ vs H Q E, ¬ spV T n (fun _ => .stuck) vs H Q E := fun vs H Q E ⟨_, _, _, _, _, _, _, o⟩ => o
  exact ⟨f, fd, ps, ⟨fun vs H Q E h => absurd h (no vs H Q E), fun A outer s H args us vs Q E _ _ _ _ _ h => absurd h (no vs H Q E)⟩, hm, hbi⟩
def msO (a b c : List SV → R) : Nat → List SV → R
  | 0 => a
  | 1 => b
  | _ => c
theorem fnSh_of {k n : Nat} {x : Str} {a b c : List SV → R} (h0 : FnC P w K mg base T k 0 x n a) (h1 : FnC P w K mg base T k 1 x n b) (h2 : FnC P w K mg base T k 2 x n c) : FnSh P w K mg base T k x n (msO a b c) := fun i hi => by
  have : i = 0 ∨ i = 1 ∨ i = 2 := by omega
  rcases this with rfl | rfl | rfl
  · exact h0
  · exact h1
  · exact h2
theorem fnN_of {c : Nat} {mk : List D → Option (List RD)} (h : FnI P w K mg base T c mk) (k : Nat) : FnN P w K mg base T k c (nwM c mk k) := by
  obtain ⟨f, fd, ps, a, b, d⟩ := h
  refine ⟨f, fd, ps, mk, a, b, d, ?_⟩
  by_cases z : 2 ≤ k
  · exact .inl ⟨z, nwM_eq z⟩
  · refine .inr ?_
    have : k = 0 ∨ k = 1 := by omega
    rcases this with rfl | rfl <;> rfl
/-! ### the same with a table at hand -/
theorem Oc.tab {x : Str} {c : Nat} (o : Oc K mg T x c) (a : Addr) : Oc K mg { T with me := some a } x c := ⟨o.mgC, o.fl, o.cl, o.na, o.ha, o.hn, o.ht, o.hm, o.mks, o.kp⟩
theorem Dm.tab {c : Nat} {x q : Str} {st : Stmt} {ps : List Str} (d : Dm K T c x q st ps) (a : Addr) : Dm K { T with me := some a } c x q st ps := d
theorem Di.tab {c : Nat} {q : Str} {st : Stmt} {ps : List Str} (d : Di K T c q st ps) (a : Addr) : Di K { T with me := some a } c q st ps := d
theorem OkI.tab {x : Str} {t : Nat → Bool} (o : OkI K mg T x t) (a : Addr) : OkI K mg { T with me := some a } x t := o
/-! ### from the top -/
theorem ad_of {c : Nat} {x : Str} {C : Addr} {h : Heap} (X : K.In h) (G : h.Ns mainGlobals mg) (a : PySem.W.nsIn K mainGlobals x = some (some (.ref C))) (hx : clsName c = x) : (ctOf mg).ad c = C := by
  show adOf mg (clsName c) = C
  rw [hx]; exact adOf_eq (PySem.W.mg_of X G a)
theorem oc_mk {c : Nat} {x : Str} {C : Addr} {h : Heap} (X : K.In h) (G : h.Ns mainGlobals mg) (a : PySem.W.nsIn K mainGlobals x = some (some (.ref C))) (hx : clsName c = x) (cl : Cls K C) (na : ∀ f ∈ clsFlds c, NoAttr K C f)
    (ha : PySem.W.findIn K (.ref C) "__class__" = some (some (.builtin "object.__class__"))) (hn : PySem.W.specialIn K (.builtin "object.__class__") "__get__" = some (some (.builtin "getset_descriptor.__get__"))) (ht : PySem.W.takesIn K (.builtin "object.__class__") = some true)
    (hm : PySem.W.mroIn K C (.type "object") = some true) (mks : PySem.W.makesIn K C = true) (kp : PySem.W.keepIn K (.ref C) = true) : Oc K mg (ctOf mg) x c := by
  have e := ad_of X G a hx
  exact ⟨by rw [e]; exact PySem.W.mg_of X G a, rfl, by rw [e]; exact cl, by rw [e]; exact na, by rw [e]; exact ha, hn, ht, by rw [e]; exact hm, by rw [e]; exact mks, by rw [e]; exact kp⟩
theorem dm_mk {c : Nat} {x m q : Str} {C f : Addr} {h : Heap} {st : Stmt} {ps : List Str} {oc : Value} {od an : Option Addr} {osl : Array (Option Value)} {kV doc pm cdv ct : Value} (X : K.In h) (G : h.Ns mainGlobals mg) (a : PySem.W.nsIn K mainGlobals x = some (some (.ref C))) (hx : clsName c = x)
    (g : PySem.W.findIn K (.ref C) m = some (some (.ref f))) (n : PySem.W.isFn K (.ref f) = true) (l : K.lookup f = some ⟨oc, od, .func (PySem.W.fnOf m q (defArgs st) (defBody st) (defScope st) .none kV doc pm an cdv ct), osl⟩) (cd : PySem.W.codeIn K cdv q = true) (k : PySem.W.keepIn K (.ref f) = true)
    (hb : ∀ (kV doc pm : Value) (an : Option Addr) (cdv ct : Value) (us : List Value), us.length = ps.length → bindArgs (PySem.W.fnOf m q (defArgs st) (defBody st) (defScope st) .none kV doc pm an cdv ct) ⟨us, []⟩ = pure (ps.zip us)) : Dm K (ctOf mg) c m q st ps := by
  have F := fun_mk (st := st) l cd k
  exact ⟨f, _, F, ⟨by rw [ad_of X G a hx]; exact g, n, k⟩, F.binds hb⟩
theorem di_mk {c : Nat} {x q : Str} {C f : Addr} {h : Heap} {st : Stmt} {ps : List Str} {oc : Value} {od an : Option Addr} {osl : Array (Option Value)} {kV doc pm cdv ct : Value} (X : K.In h) (G : h.Ns mainGlobals mg) (a : PySem.W.nsIn K mainGlobals x = some (some (.ref C))) (hx : clsName c = x)
    (g : PySem.W.findIn K (.ref C) "__init__" = some (some (.ref f))) (n : PySem.W.isFn K (.ref f) = true) (l : K.lookup f = some ⟨oc, od, .func (PySem.W.fnOf "__init__" q (defArgs st) (defBody st) (defScope st) .none kV doc pm an cdv ct), osl⟩) (cd : PySem.W.codeIn K cdv q = true) (k : PySem.W.keepIn K (.ref f) = true)
    (mks : PySem.W.makesIn K C = true) (kp : PySem.W.keepIn K (.ref C) = true)
    (hb : ∀ (kV doc pm : Value) (an : Option Addr) (cdv ct : Value) (us : List Value), us.length = ps.length → bindArgs (PySem.W.fnOf "__init__" q (defArgs st) (defBody st) (defScope st) .none kV doc pm an cdv ct) ⟨us, []⟩ = pure (ps.zip us)) : Di K (ctOf mg) c q st ps := by
  have F := fun_mk (st := st) l cd k
  have e := ad_of X G a hx
  exact ⟨f, _, F, ⟨by rw [e]; exact mks, by rw [e]; exact g, n, by rw [e]; exact kp⟩, F.binds hb⟩
theorem z_mk {c : Nat} {x : Str} {C : Addr} {h : Heap} (X : K.In h) (G : h.Ns mainGlobals mg) (a : PySem.W.nsIn K mainGlobals x = some (some (.ref C))) (hx : clsName c = x) (g : PySem.W.findIn K (.ref C) "__init__" = some (some (.builtin "object.__init__"))) :
    PySem.W.findIn K (.ref ((ctOf mg).ad c)) "__init__" = some (some (.builtin "object.__init__")) := by rw [ad_of X G a hx]; exact g
theorem ok_mk {x : Str} {D C0 C1 C2 : Addr} {h : Heap} {t : Nat → Bool} {b0 b1 b2 : Bool} (X : K.In h) (G : h.Ns mainGlobals mg) (a : PySem.W.nsIn K mainGlobals x = some (some (.ref D))) (a0 : PySem.W.nsIn K mainGlobals "Leans" = some (some (.ref C0))) (a1 : PySem.W.nsIn K mainGlobals "Slants" = some (some (.ref C1))) (a2 : PySem.W.nsIn K mainGlobals "Leaned" = some (some (.ref C2)))
    (e0 : PySem.W.kitOne K (.ref C0) (.ref D) = some b0) (e1 : PySem.W.kitOne K (.ref C1) (.ref D) = some b1) (e2 : PySem.W.kitOne K (.ref C2) (.ref D) = some b2) (h0 : t 0 = b0) (h1 : t 1 = b1) (h2 : t 2 = b2) : OkI K mg (ctOf mg) x t := by
  refine ⟨D, PySem.W.mg_of X G a, fun c hc => ?_⟩
  have : c = 0 ∨ c = 1 ∨ c = 2 := by omega
  rcases this with rfl | rfl | rfl
  · rw [ad_of X G a0 rfl, h0]; exact e0
  · rw [ad_of X G a1 rfl, h1]; exact e1
  · rw [ad_of X G a2 rfl, h2]; exact e2
theorem na0 {K : PySem.W.Frag} {C : Addr} : ∀ f ∈ clsFlds 0, NoAttr K C f := fun _ m => absurd m List.not_mem_nil
theorem na1 {K : PySem.W.Frag} {C : Addr} (h : PySem.W.findIn K (.ref C) "way" = some none) : ∀ f ∈ clsFlds 1, NoAttr K C f := fun f m => by
  rw [show f = ("way" : Str) from List.mem_singleton.mp m]; exact h
theorem na2 {K : PySem.W.Frag} {C : Addr} (h : PySem.W.findIn K (.ref C) "heap" = some none) (h' : PySem.W.findIn K (.ref C) "ways" = some none) : ∀ f ∈ clsFlds 2, NoAttr K C f := fun f m => by
  rcases List.mem_cons.mp m with rfl | m
  · exact h
  · rw [show f = ("ways" : Str) from List.mem_singleton.mp m]; exact h'
end
end VL
namespace VL
open PySem L2
/-! ### a name takes a thing of its own; parts of it are changed -/
@[simp] def isRg : Option SV → Bool
  | some (.rg _) => true
  | _ => false
def noRg (env : VEnv) : Bool := env.all fun o => !isRg o
theorem noRg_at {env : VEnv} (h : noRg env = true) {j : Nat} {r : RD} (e : env[j]? = some (some (.rg r))) : False := by
  have := List.all_eq_true.mp h _ (List.mem_of_getElem? e)
  simp at this
@[simp] def sRg (i : Nat) (f : FE) : FS := fun env => (f env).s fun v => if noRg (env.set i none) = true then (match v with
  | .rg r => .nx (env.set i (some (.rg r)))
  | _ => .stuck) else .stuck
/-- the list that is the j-th part -/
@[simp] def subL (rs : List RD) (j : Nat) : Option (List RD) := match rs[j]? with
  | some (.lst qs) => some qs
  | _ => none
/-- x.f.append(e), x.f.pop() -/
@[simp] def sRgApp (i c j : Nat) (f : FE) : FS := fun env => match env[i]? with
  | some (some (.rg (.ins c' rs))) => if c' = c then (match subL rs j with
    | some qs => (match evA [f] env with
      | .val [.sh d] => if qs.length ≤ 1000000 then .nx (env.set i (some (.rg (.ins c (rs.set j (.lst (qs ++ [.dat d]))))))) else .stuck
      | .err c => .err c
      | _ => .stuck)
    | none => .stuck) else .stuck
  | _ => .stuck
@[simp] def sRgPop (i c j : Nat) : FS := fun env => match env[i]? with
  | some (some (.rg (.ins c' rs))) => if c' = c then (match subL rs j with
    | some qs => if qs.length = 0 then .stuck else .nx (env.set i (some (.rg (.ins c (rs.set j (.lst qs.dropLast))))))
    | none => .stuck) else .stuck
  | _ => .stuck
section
variable {X : Cx} {T : Ct} {EX : XK} {B : Hp × Hp} {e a b c o tg : Expr} {es : List Expr} {pos p p2 apos : Pos} {f g h : FE} {fs gs : List FE} {G H G1 H1 : Hp} {Q : VK} {σ : L2.St} {env : VEnv} {D : Ends}
theorem Sim.setRg (S : Sim T B G env σ H) {i : Nat} {v : V} {F : List Addr} {r : RD} (n : noRg (env.set i none) = true) (h : RgAt T B G H F v r) (ap : ∀ (j : Nat) ds p, env[j]? = some (some (.ow ds)) → σ[j]? = some (some (.ref p)) → p ∉ F) : Sim T B G (env.set i (some (.rg r))) (σ.set i (some v)) H where
  st := S.st
  nb := S.nb
  me := S.me
  len := by rw [List.length_set, List.length_set, S.len]
  sh := fun j e q => by
    rcases get_set q with ⟨z, y⟩ | ⟨z, y⟩
    · cases y
    · obtain ⟨w, h1, h2⟩ := S.sh j e y
      exact ⟨w, by rw [List.getElem?_set_ne z]; exact h1, h2⟩
  ob := fun j c' fs' q => by
    rcases get_set q with ⟨z, y⟩ | ⟨z, y⟩
    · cases y
    · obtain ⟨w, h1, h2⟩ := S.ob j c' fs' y
      exact ⟨w, by rw [List.getElem?_set_ne z]; exact h1, h2⟩
  ow := fun j ds q => by
    rcases get_set q with ⟨z, y⟩ | ⟨z, y⟩
    · cases y
    · obtain ⟨p, xs, h1, h2⟩ := S.ow j ds y
      exact ⟨p, xs, by rw [List.getElem?_set_ne z]; exact h1, h2⟩
  ap := fun j k ds es p q1 q2 q3 q4 => by
    rcases get_set q1 with ⟨z, y⟩ | ⟨z1, y1⟩
    · cases y
    rcases get_set q2 with ⟨z, y⟩ | ⟨z2, y2⟩
    · cases y
    rw [List.getElem?_set_ne z1] at q3
    rw [List.getElem?_set_ne z2] at q4
    exact S.ap j k ds es p y1 y2 q3 q4
  rg := fun j r' q => by
    have hj : j < σ.length := by have := (List.getElem?_eq_some_iff.mp q).1; rw [List.length_set] at this; rw [← S.len]; exact this
    have no : ∀ (l : Nat) r2, env[l]? = some (some (.rg r2)) → i ≠ l → False := fun l r2 e z => noRg_at (j := l) (r := r2) n (by rw [List.getElem?_set_ne z]; exact e)
    rcases get_set q with ⟨z, y⟩ | ⟨z, y⟩
    · subst z
      cases y
      refine ⟨fun l r2 q2 => ?_, v, F, List.getElem?_set_self hj, h, fun l ds p q1 q2 => ?_⟩
      · rcases get_set q2 with ⟨z, _⟩ | ⟨z, y⟩
        · exact z.symm
        · exact (no l r2 y z).elim
      · rcases get_set q1 with ⟨z, y⟩ | ⟨z, y⟩
        · cases y
        · rw [List.getElem?_set_ne z] at q2
          exact ap l ds p y q2
    · exact (no j r' y z).elim
theorem vs_rg (i : Nat) {x : Str} {pos' : Pos} (C : Cv X T EX B) (he : VE X T EX B e f) (hi : X.N[i]? = some x := by rfl) (hx : Loc X.env.scope x := by first | exact .inl rfl | exact .inr rfl) (hs : swapsWith e (some (.Name x pos')) pos.line X.env = pure false := by rfl) (hf : X.fn x = true ∨ X.env.scope.names.lookup x = some .local := by first | exact .inl rfl | exact .inr rfl) :
    VS X T EX B (.Assign [.Name x pos'] e pos) (sRg i f) := ps_weak (ps_set C.nd hi hx he hs hf) fun D σ H q => by
  obtain ⟨G, env, S, o⟩ := q
  refine seqS S o fun v _ o => ?_
  split at o
  rotate_left
  · exact o.elim
  rename_i n
  split at o
  rotate_left
  · exact o.elim
  intro v F G' H' s nd nw q
  refine o G' _ H' s.gg ((S.step s).setRg n ⟨q, nd, fun a m => ⟨(nw a m).1, SameH.free S.st.hh (nw a m).2⟩⟩ fun j ds p e1 e2 m => ?_)
  obtain ⟨p', xs, h1, h2, _⟩ := S.ow j ds e1
  rw [e2] at h1; cases h1
  have := (nw p m).2
  rw [h2] at this; cases this
/-- the thing that a name owns is changed within its places -/
theorem Sim.wrR (S : Sim T B G env σ H) {i : Nat} {r r' : RD} {v : V} {F F' : List Addr} {H' : Hp} (hi : env[i]? = some (some (.rg r))) (hv : σ[i]? = some (some v)) (ra : RgAt T B G H F v r) (ap : ∀ (j : Nat) ds p, env[j]? = some (some (.ow ds)) → σ[j]? = some (some (.ref p)) → p ∉ F)
    (k : ∀ a, a ∉ F → H' a = H a) (k2 : ∀ a ∈ F, ∃ o, H' a = some o) (rp : RRp T G H' F' v r') (sb : F'.Sublist F) : Sim T B G (env.set i (some (.rg r'))) σ H' := by
  have hl : i < σ.length := S.lt hi
  have hs : σ = σ.set i (some v) := by
    refine List.ext_getElem? fun j => ?_
    by_cases z : i = j
    · subst z; rw [List.getElem?_set_self hl]; exact hv
    · rw [List.getElem?_set_ne z]
  obtain ⟨u, _⟩ := S.rg i r hi
  have gF : ∀ a o, G a = some o → a ∉ F := fun a o e m => by rw [(ra.nw a m).1] at e; cases e
  have bF : ∀ a o, B.2 a = some o → a ∉ F := fun a o e m => by rw [(ra.nw a m).2] at e; cases e
  have S1 : Sim T B G (env.set i none) σ H' := by
    have fz : Frzs H H' := fun c oc u h => by
      rw [k c fun m => RRp.nf r F v ra.rp c m oc u h]; exact h
    refine ⟨⟨S.st.hh.alt (fun b o q => k b (bF b o q)) fz, S.st.gg, fun b o q => ?_, S.st.nw, S.st.nm⟩, S.nb, ⟨fun c z => ?_, fun P z => ?_⟩, by rw [List.length_set, S.len], fun j d q => ?_, fun j c fs q => ?_, fun j es q => ?_, fun j k es fs a q1 q2 q3 q4 => ?_, fun j r2 q => ?_⟩
    · rw [k b (gF b o q)]; exact S.st.gh b o q
    · obtain ⟨o, e, m⟩ := S.me.1 c z
      refine ⟨o, ?_, m⟩
      rw [k c fun mf => ?_]; exact e
      obtain ⟨o', e', n⟩ := RRp.at r F v ra.rp c mf
      rw [e] at e'; cases e'; exact n m
    · obtain ⟨o, e, m⟩ := S.me.2 P z
      refine ⟨o, ?_, m.mono fz⟩
      rw [k P fun mf => ?_]; exact e
      obtain ⟨o', e', n⟩ := RRp.at r F v ra.rp P mf
      rw [e] at e'; cases e'; exact n trivial
    · rcases get_set q with ⟨z, y⟩ | ⟨z, y⟩
      · cases y
      · exact S.sh j d y
    · rcases get_set q with ⟨z, y⟩ | ⟨z, y⟩
      · cases y
      · exact S.ob j c fs y
    · rcases get_set q with ⟨z, y⟩ | ⟨z, y⟩
      · cases y
      · obtain ⟨a, ys, h1, h2, h3⟩ := S.ow j es y
        exact ⟨a, ys, h1, by rw [k a (ap j es a y h1)]; exact h2, h3⟩
    · rcases get_set q1 with ⟨z, y⟩ | ⟨z1, y1⟩
      · cases y
      rcases get_set q2 with ⟨z, y⟩ | ⟨z2, y2⟩
      · cases y
      exact S.ap j k es fs a y1 y2 q3 q4
    · rcases get_set q with ⟨z, y⟩ | ⟨z, y⟩
      · cases y
      · exact absurd (u j r2 y).symm z
  have n : noRg ((env.set i none).set i none) = true := by
    rw [List.set_set]
    refine List.all_eq_true.mpr fun o m => ?_
    obtain ⟨j, hj⟩ := List.getElem?_of_mem m
    cases o with
    | none => rfl
    | some w =>
      cases w with
      | rg r2 =>
        rcases get_set hj with ⟨z, y⟩ | ⟨z, y⟩
        · cases y
        · exact absurd (u j r2 y).symm z
      | _ => rfl
  have q := S1.setRg (i := i) n (r := r') (v := v) ⟨rp, ra.nd.sublist sb, fun a m => ra.nw a (sb.subset m)⟩ (fun j ds p e1 e2 m => by
    rcases get_set e1 with ⟨z, y⟩ | ⟨z, y⟩
    · cases y
    · exact ap j ds p y e2 (sb.subset m))
  rw [← hs, List.set_set] at q
  exact q
/-- the j-th part is a list: its place; another one put there -/
theorem RRpAll.sub {T : Ct} {G H : Hp} : ∀ {rs : List RD} {S : List Addr} {vs : List V} (j : Nat) {qs : List RD}, RRpAll T G H S vs rs → rs[j]? = some (.lst qs) → S.Nodup →
    ∃ p xs Sq, vs[j]? = some (.ref p) ∧ H p = some (.lst xs) ∧ RRpAll T G H Sq xs qs ∧ p ∈ S ∧ p ∉ Sq ∧ Sq.Sublist S ∧
      ∀ H' xs' qs' Sq', (∀ a ∈ S, a ≠ p → a ∉ Sq → H' a = H a) → H' p = some (.lst xs') → RRpAll T G H' Sq' xs' qs' → Sq'.Sublist Sq → ∃ S', S'.Sublist S ∧ RRpAll T G H' S' vs (rs.set j (.lst qs'))
  | [], _, _, _, _, _, h, _ => by simp at h
  | r :: rs, _, _, 0, qs, .cons (S := S1) (S' := S2) h a, e, nd => by
    simp only [List.getElem?_cons_zero, Option.some.injEq] at e
    subst e
    cases h with
    | lst h q =>
      rename_i p xs Sq
      have nd' := List.nodup_append.mp nd
      have pq := (List.nodup_cons.mp nd'.1).1
      refine ⟨p, xs, Sq, rfl, h, q, List.mem_append_left _ List.mem_cons_self, pq, (List.sublist_cons_self p Sq).trans (List.sublist_append_left _ _), fun H' xs' qs' Sq' k hp ra sb => ⟨(p :: Sq') ++ S2, (sb.cons_cons p).append (List.Sublist.refl _), .cons (.lst hp ra) (RRpAll.mono (T' := T) (Same.refl G) rfl rfl rs _ _ a fun b m => k b (List.mem_append_right _ m) (fun z => ?_) fun z => ?_)⟩⟩
      · exact nd'.2.2 p List.mem_cons_self b m z.symm
      · exact nd'.2.2 b (List.mem_cons_of_mem _ z) b m rfl
  | r :: rs, _, _, j + 1, qs, .cons (S := S1) (S' := S2) h a, e, nd => by
    have e : rs[j]? = some (.lst qs) := by simpa using e
    have nd' := List.nodup_append.mp nd
    obtain ⟨p, xs, Sq, h1, h2, h3, h4, h5, h6, h7⟩ := RRpAll.sub j a e nd'.2.1
    refine ⟨p, xs, Sq, by simpa using h1, h2, h3, List.mem_append_right _ h4, h5, h6.trans (List.sublist_append_right _ _), fun H' xs' qs' Sq' k hp ra sb => ?_⟩
    obtain ⟨S', s1, s2⟩ := h7 H' xs' qs' Sq' (fun b m => k b (List.mem_append_right _ m)) hp ra sb
    refine ⟨S1 ++ S', (List.Sublist.refl _).append s1, .cons (RRp.mono (T' := T) (Same.refl G) rfl rfl r _ _ h fun b m => k b (List.mem_append_left _ m) (fun z => ?_) fun z => ?_) s2⟩
    · exact nd'.2.2 b m p h4 z
    · exact nd'.2.2 b m b (h6.subset z) rfl
theorem RRpAll.len {T : Ct} {G H : Hp} : ∀ {rs : List RD} {S : List Addr} {vs : List V}, RRpAll T G H S vs rs → vs.length = rs.length
  | _, _, _, .nil => rfl
  | _, _, _, .cons _ a => by rw [List.length_cons, List.length_cons, RRpAll.len a]
theorem RRpAll.dropLast {T : Ct} {G H : Hp} : ∀ {rs : List RD} {S : List Addr} {vs : List V}, RRpAll T G H S vs rs → ∃ S', S'.Sublist S ∧ RRpAll T G H S' vs.dropLast rs.dropLast
  | _, _, _, .nil => ⟨[], List.Sublist.refl _, .nil⟩
  | _, _, _, .cons (S := S1) h a => by
    rename_i S2 v vs r rs
    cases a with
    | nil => exact ⟨[], List.nil_sublist _, .nil⟩
    | cons h' a' =>
      obtain ⟨S', s1, s2⟩ := RRpAll.dropLast (.cons h' a')
      exact ⟨S1 ++ S', (List.Sublist.refl _).append s1, .cons h s2⟩
end
end VL
namespace VL
open PySem L2
theorem subL_eq {rs : List RD} {j : Nat} {qs : List RD} (h : subL rs j = some qs) : rs[j]? = some (.lst qs) := by
  unfold subL at h
  split at h
  · rename_i q e; cases h; exact e
  · cases h
section
variable {X : Cx} {T : Ct} {EX : XK} {B : Hp × Hp} {e a b c o tg : Expr} {es : List Expr} {pos p p2 apos cpos px : Pos} {f g h : FE} {fs gs : List FE} {G H G1 H1 : Hp} {Q : VK} {σ : L2.St} {env : VEnv} {D : Ends}
/-- an object of one's own, opened: its fields, the list at j -/
theorem rg_open (S : Sim T B G env σ H) {i c j : Nat} {rs qs : List RD} (ei : env[i]? = some (some (.rg (.ins c rs)))) (er : rs[j]? = some (.lst qs)) :
    ∃ a dx vs S0 p xs Sq, σ[i]? = some (some (.ref a)) ∧ H a = some (.ins (T.ad c) dx ((T.fl c).zip vs)) ∧ vs.length = (T.fl c).length ∧ vs[j]? = some (.ref p) ∧ H p = some (.lst xs) ∧ RRpAll T G H Sq xs qs ∧ p ∈ S0 ∧ p ∉ Sq ∧ Sq.Sublist S0 ∧ a ∉ S0 ∧ RgAt T B G H (a :: dx :: S0) (.ref a) (.ins c rs) ∧
      (∀ (l : Nat) ds q, env[l]? = some (some (.ow ds)) → σ[l]? = some (some (.ref q)) → q ∉ a :: dx :: S0) ∧
      ∀ H' xs' qs' Sq', (∀ b, b ∉ p :: Sq → H' b = H b) → (∀ b ∈ Sq, ∃ o, H' b = some o) → H' p = some (.lst xs') → RRpAll T G H' Sq' xs' qs' → Sq'.Sublist Sq → Sim T B G (env.set i (some (.rg (.ins c (rs.set j (.lst qs')))))) σ H' := by
  obtain ⟨u, v, F, hv, ra, ap⟩ := S.rg i _ ei
  have rp := ra.rp
  cases rp with
  | ins h h2 l q =>
    rename_i a dx vs S0
    have n1 := List.nodup_cons.mp ra.nd
    have n2 := List.nodup_cons.mp n1.2
    obtain ⟨p, xs, Sq, g1, g2, g3, g4, g5, g6, g7⟩ := RRpAll.sub j q er n2.2
    have ap' : a ≠ p := fun z => n1.1 (List.mem_cons_of_mem _ (z ▸ g4))
    have dp : dx ≠ p := fun z => n2.1 (z ▸ g4)
    refine ⟨a, dx, vs, S0, p, xs, Sq, hv, h, l, g1, g2, g3, g4, g5, g6, fun m => n1.1 (List.mem_cons_of_mem _ m), ra, ap, fun H' xs' qs' Sq' k k2 hp r' sb => ?_⟩
    obtain ⟨S', s1, s2⟩ := g7 H' xs' qs' Sq' (fun b m z1 z2 => k b fun z => (List.mem_cons.mp z).elim z1 z2) hp r' sb
    have ka : ∀ b, b ∈ [a, dx] → H' b = H b := fun b m => k b fun z => by
      simp only [List.mem_cons, List.not_mem_nil, or_false] at m
      rcases List.mem_cons.mp z with z | z
      · rcases m with rfl | rfl
        · exact ap' z
        · exact dp z
      · have := g6.subset z
        rcases m with rfl | rfl
        · exact n1.1 (List.mem_cons_of_mem _ this)
        · exact n2.1 this
    refine S.wrR ei hv ra ap (fun b nb => k b fun z => nb ?_) (fun b m => ?_) (.ins ((ka a (by simp)).trans h) ((ka dx (by simp)).trans h2) l s2) ((s1.cons_cons dx).cons_cons a)
    · rcases List.mem_cons.mp z with rfl | z
      · exact List.mem_cons_of_mem _ (List.mem_cons_of_mem _ g4)
      · exact List.mem_cons_of_mem _ (List.mem_cons_of_mem _ (g6.subset z))
    · by_cases z : b ∈ p :: Sq
      · rcases List.mem_cons.mp z with rfl | z
        · exact ⟨_, hp⟩
        · exact k2 b z
      · rw [k b z]
        obtain ⟨o, eo, _⟩ := RRp.at _ _ _ ra.rp b m
        exact ⟨o, eo⟩
theorem vs_rgApp (i c j : Nat) {x cx fn : Str} {p1 : Pos} (oc : Oc X.K X.mg T cx c) (he : VE X T EX B e f) (hf : (clsFlds c)[j]? = some fn := by rfl) (ndf : (clsFlds c).Nodup := by decide +kernel) (hN : X.N[i]? = some x := by rfl) (hv : Vis X.env.scope x := by first | exact Or.inl rfl | exact Or.inr (Or.inl rfl) | exact Or.inr (Or.inr rfl)) (hd : (x == ("__debug__" : Str)) = false := by decide) (hcd : (x == ("__classdict__" : Str)) = false := by decide)
    (hline : (apos.endLine == cpos.line) = true := by rfl) (hs : starEach [e] X.env = [(false, eval e X.env)] := by rfl) :
    VS X T EX B (.Expr (.Call (.Attribute (.Attribute (.Name x px) fn p1) "append" apos) [e] [] cpos) pos) (sRgApp i c j f) := by
  refine ps_weak (ps_expr (pe_bm PySem.F.plainAttrs_list PySem.F.slot_list_append PySem.F.type_list_append mt_append (pe_fld (pe_var hN hv hd hcd) rfl) (va_cons he va_nil hs) rfl (by rw [hs]; rfl) hline hs rfl) rfl) fun D σ H q => ?_
  obtain ⟨G, env, S, o⟩ := q
  unfold sRgApp at o
  split at o
  rotate_left
  · exact o.elim
  rename_i c' rs ei
  split at o
  rotate_left
  · exact o.elim
  rename_i ec
  subst ec
  split at o
  rotate_left
  · exact o.elim
  rename_i qs eq
  have er := subL_eq eq
  obtain ⟨a, dx, vs, S0, p, xs, Sq, hv', h, ll, g1, g2, g3, g4, g5, g6, g8, ra, ap, _⟩ := rg_open S ei er
  refine ⟨.ref a, hv', a, _, dx, _, .ref p, rfl, h, oc.cl, oc.na fn (List.mem_of_getElem? hf), zip_lookup (by rw [oc.fl]; exact ndf) (by rw [oc.fl]; exact hf) g1, .inl ⟨rfl, xs, SqL.of g2⟩,
    args1 (D := D) (K := fun a => match a with | .sh d => if qs.length ≤ 1000000 then .nx (env.set i (some (.rg (.ins c' (rs.set j (.lst (qs ++ [.dat d]))))))) else .stuck | _ => .stuck) S ?_ fun w v G1 H1 s1 rp S1 o1 => ?_⟩
  · revert o
    cases evA [f] env with
    | val as =>
      cases as with
      | nil => exact fun o => o
      | cons a r =>
        cases r with
        | nil => cases a <;> exact fun o => o
        | cons _ _ => exact fun o => by cases a <;> exact o
    | err c => exact fun o => o
    | stuck => exact fun o => o
  · cases w with
    | sh d =>
      dsimp only at o1
      split at o1
      rotate_left
      · exact o1.elim
      rename_i hl
      obtain ⟨a', dx', vs', S0', p', xs', Sq', hv2, h', ll', g1', g2', g3', g4', g5', g6', g8', ra', ap', fin⟩ := rg_open S1 ei er
      rw [hv'] at hv2; cases hv2
      obtain ⟨_, ka⟩ := s1.keepS (fun b m => (ra.nw b m).1) (RRp.at _ _ _ ra.rp)
      have ea := ka a List.mem_cons_self
      rw [h, h'] at ea
      injection ea with ea
      injection ea with _ e2 e3
      subst e2
      have e4 := zip_inj ll' ll e3
      subst e4
      rw [g1] at g1'
      injection g1' with e5
      injection e5 with e5
      subst e5
      refine ⟨p, xs', v, rfl, rfl, g2', by rw [g3'.len]; exact gl_line hl, o1 G1 σ _ (Same.refl _) (fin _ (xs' ++ [v]) (qs ++ [.dat d]) Sq' (fun b nb => upd_ne fun z => nb (z ▸ List.mem_cons_self)) (fun b m => ?_) upd_same ?_ (List.Sublist.refl _))⟩
      · obtain ⟨o, eo, _⟩ := RRpAll.at _ _ _ g3' b m
        exact ⟨o, by rw [upd_ne (show b ≠ p from fun z => g5' (z ▸ m))]; exact eo⟩
      · have z := RRpAll.snoc (S' := []) (.dat rp) (RRpAll.mono (T' := T) (H' := upd H1 p (.lst (xs' ++ [v]))) (Same.refl G1) rfl rfl _ _ _ g3' fun b m => upd_ne (show b ≠ p from fun z => g5' (z ▸ m)))
        rw [List.append_nil] at z
        exact z
    | ow _ => exact o1.elim
    | ob _ _ => exact o1.elim
    | rg _ => exact o1.elim
theorem vs_rgPop (i c j : Nat) {x cx fn : Str} {p1 : Pos} (oc : Oc X.K X.mg T cx c) (hf : (clsFlds c)[j]? = some fn := by rfl) (ndf : (clsFlds c).Nodup := by decide +kernel) (hN : X.N[i]? = some x := by rfl) (hv : Vis X.env.scope x := by first | exact Or.inl rfl | exact Or.inr (Or.inl rfl) | exact Or.inr (Or.inr rfl)) (hd : (x == ("__debug__" : Str)) = false := by decide) (hcd : (x == ("__classdict__" : Str)) = false := by decide)
    (hline : (apos.endLine == cpos.line) = true := by rfl) : VS X T EX B (.Expr (.Call (.Attribute (.Attribute (.Name x px) fn p1) "pop" apos) [] [] cpos) pos) (sRgPop i c j) := by
  refine ps_weak (ps_expr (pe_bm0 PySem.F.plainAttrs_list PySem.F.slot_list_pop PySem.F.type_list_pop mt_pop (pe_fld (pe_var hN hv hd hcd) rfl) rfl hline) rfl) fun D σ H q => ?_
  obtain ⟨G, env, S, o⟩ := q
  unfold sRgPop at o
  split at o
  rotate_left
  · exact o.elim
  rename_i c' rs ei
  split at o
  rotate_left
  · exact o.elim
  rename_i ec
  subst ec
  split at o
  rotate_left
  · exact o.elim
  rename_i qs eq
  split at o
  · exact o.elim
  rename_i hn
  have er := subL_eq eq
  obtain ⟨a, dx, vs, S0, p, xs, Sq, hv', h, ll, g1, g2, g3, g4, g5, g6, g8, ra, ap, fin⟩ := rg_open S ei er
  have lx := g3.len
  obtain ⟨y, hy⟩ : ∃ y, xs[xs.length - 1]? = some y := ⟨xs[xs.length - 1]'(by omega), List.getElem?_eq_getElem _⟩
  obtain ⟨S', s1, s2⟩ := g3.dropLast
  refine ⟨.ref a, hv', a, _, dx, _, .ref p, rfl, h, oc.cl, oc.na fn (List.mem_of_getElem? hf), zip_lookup (by rw [oc.fl]; exact ndf) (by rw [oc.fl]; exact hf) g1, .inl ⟨rfl, xs, SqL.of g2⟩, p, xs, y, rfl, rfl, g2, hy, o G _ _ (Same.refl _) (fin _ xs.dropLast qs.dropLast S' (fun b nb => upd_ne fun z => nb (z ▸ List.mem_cons_self)) (fun b m => ?_) upd_same ?_ s1)⟩
  · obtain ⟨o, eo, _⟩ := RRpAll.at _ _ _ g3 b m
    exact ⟨o, by rw [upd_ne (show b ≠ p from fun z => g5 (z ▸ m))]; exact eo⟩
  · exact RRpAll.mono (T' := T) (Same.refl G) rfl rfl _ _ _ s2 fun b m => upd_ne (show b ≠ p from fun z => g5 (z ▸ s1.subset m))
end
end VL
namespace VL
open PySem L2
/-! ### is, is not of truths -/
@[simp] def fIs : D → D → R
  | .bool a, .bool b => rb (a == b)
  | _, _ => .stuck
@[simp] def fIsn : D → D → R
  | .bool a, .bool b => rb (!(a == b))
  | _, _ => .stuck
section
variable {X : Cx} {T : Ct} {EX : XK}
theorem dec_beq (a b : Bool) : decide (a = b) = (a == b) := by cases a <;> cases b <;> rfl
theorem c_is : Cmp X T EX .Is fIs (fun x y H Q => ∃ a b, x = .bl a ∧ y = .bl b ∧ Q (.bl (decide (a = b))) H) := ⟨op_is_bl, fun Q x y dx dy G H gh hx hy o => by
  unfold fIs at o
  split at o
  · rw [hx.blInv, hy.blInv]; exact ⟨_, _, rfl, rfl, by rw [dec_beq]; exact o.rb gh⟩
  · exact o.elim⟩
theorem c_isn : Cmp X T EX .IsNot fIsn (fun x y H Q => ∃ a b, x = .bl a ∧ y = .bl b ∧ Q (.bl (!decide (a = b))) H) := ⟨op_isnot_bl, fun Q x y dx dy G H gh hx hy o => by
  unfold fIsn at o
  split at o
  · rw [hx.blInv, hy.blInv]; exact ⟨_, _, rfl, rfl, by rw [dec_beq]; exact o.rb gh⟩
  · exact o.elim⟩
end
/-! ### a list of lists of one's own -/
@[simp] def isLstR : RD → Bool
  | .lst qs => decide (qs.length ≤ 100000)
  | _ => false
/-- for w in x: w.append(..): what is within x is not looked at any more -/
@[simp] def eachJ (qs : List RD) : Option (List RD) := if qs.all isLstR = true ∧ qs.length ≤ 100000 then some (qs.map fun _ => .jk) else none
@[simp] def sRgEachL (i w : Nat) : FS := fun env => match env[i]? with
  | some (some (.rg (.lst qs))) => (match eachJ qs with
    | some js => if i ≠ w ∧ w < env.length then .nx ((env.set i (some (.rg (.lst js)))).set w none) else .stuck
    | none => .stuck)
  | _ => .stuck
@[simp] def sRgEachF (i c j w : Nat) : FS := fun env => match env[i]? with
  | some (some (.rg (.ins c' rs))) => if c' = c then (match subL rs j with
    | some qs => (match eachJ qs with
      | some js => if i ≠ w ∧ w < env.length then .nx ((env.set i (some (.rg (.ins c (rs.set j (.lst js)))))).set w none) else .stuck
      | none => .stuck)
    | none => .stuck) else .stuck
  | _ => .stuck
/-- x = [list(w) for w in e] -/
@[simp] def sRgLL (i w : Nat) (f : FE) : FS := fun env => (f env).s fun v => match v.fz with
  | .sh (.list ws) => (match asLsts ws with
    | some wss => if wss.length ≤ 100000 ∧ noRg (env.set i none) = true ∧ w < env.length then .nx (env.set i (some (.rg (.lst (wss.map lstR))))) else .stuck
    | none => .stuck)
  | _ => .stuck
/-- x.append(e) -/
@[simp] def sRgAppL (i : Nat) (f : FE) : FS := fun env => match env[i]? with
  | some (some (.rg (.lst qs))) => (match evA [f] env with
    | .val [.sh d] => if qs.length ≤ 1000000 then .nx (env.set i (some (.rg (.lst (qs ++ [.dat d]))))) else .stuck
    | .err c => .err c
    | _ => .stuck)
  | _ => .stuck
section
variable {X : Cx} {T : Ct} {EX : XK} {B : Hp × Hp} {e a b c o tg : Expr} {es : List Expr} {pos p p2 apos cpos px : Pos} {f g h : FE} {fs gs : List FE} {G H G1 H1 : Hp} {Q : VK} {σ : L2.St} {env : VEnv} {D : Ends}
theorem Sim.forget (S : Sim T B G env σ H) (w : Nat) : Sim T B G (env.set w none) σ H := by
  by_cases hl : w < σ.length
  · have := S.setNone (i := w) (o := σ[w])
    rwa [List.set_getElem_self] at this
  · have : env.set w none = env := List.set_eq_of_length_le (by rw [S.len]; omega)
    rw [this]; exact S
theorem jks_rrp : ∀ {xs : List V} {qs : List RD}, xs.length = qs.length → RRpAll T G H [] xs (qs.map fun _ => .jk)
  | [], [], _ => .nil
  | _ :: _, _ :: _, h => .cons (S := []) (S' := []) .jk (jks_rrp (by simpa using h))
theorem RRpAll.at_lst : ∀ {qs : List RD} {S : List Addr} {vs : List V}, RRpAll T G H S vs qs → qs.all isLstR = true → ∀ (m : Nat) v, vs[m]? = some v → ∃ p ys, v = .ref p ∧ p ∈ S ∧ H p = some (.lst ys) ∧ ys.length ≤ 100000
  | [], _, _, .nil, _, m, v, h => by simp at h
  | q :: qs, _, _, .cons h a, al, m, v, hm => by
    simp only [List.all_cons, Bool.and_eq_true] at al
    cases m with
    | zero =>
      simp only [List.getElem?_cons_zero, Option.some.injEq] at hm
      subst hm
      cases h with
      | lst h1 h2 =>
        refine ⟨_, _, rfl, List.mem_append_left _ List.mem_cons_self, h1, ?_⟩
        rw [h2.len]
        have := al.1
        simpa using this
      | _ => exact absurd al.1 (by simp)
    | succ m =>
      obtain ⟨p, ys, e1, e2, e3, e4⟩ := RRpAll.at_lst a al.2 m v (by simpa using hm)
      exact ⟨p, ys, e1, List.mem_append_right _ e2, e3, e4⟩
/-- w.append('..') -/
def tbApp (K : PySem.W.Frag) (w : Nat) (s : Str) : TS := fun D σ H => tBM K "list" rAppend (tVar w) (tCons (tC (.str s)) tNil) σ H fun _ H' => D.nx σ H'
/-- the turns -/
theorem each_turns {K : PySem.W.Frag} {p : Addr} {xs : List V} {qs : List RD} {Sq : List Addr} {w : Nat} {s : Str} (hw : w < σ.length) (hp : H p = some (.lst xs)) (pq : p ∉ Sq) (ra : RRpAll T G H Sq xs qs) (al : qs.all isLstR = true) (lq : qs.length ≤ 100000)
    (fin : ∀ H' o, (∀ b, b ∉ Sq → H' b = H b) → (∀ b ∈ Sq, ∃ o, H' b = some o) → (o = σ ∨ ∃ v, o = σ.set w (some v)) → D.nx o H') :
    ∃ W : Nat → Nat → L2.St → Hp → Prop, (∃ m, W 0 m σ H) ∧ ∀ i m σ H, W i m σ H →
      ((Itl K p).stop i H ∧ D.nx σ H) ∨ ((Itl K p).go i H ∧ ∃ N : L2.St → Hp → Prop, (∀ σ' H', N σ' H' → ∃ m', m' < m ∧ W (i + 1) m' σ' H') ∧ ∀ x H', (Itl K p).yld i H x H' → gName w x σ H' fun σ2 H2 =>
        tbApp K w s { D with nx := N, ct := N, bk := D.nx } σ2 H2) := by
  have at_ := RRpAll.at _ _ _ ra
  refine for_list (K := K) (a := p) (xs := xs) (fun m o H' => (∀ b, b ∉ Sq → H' b = H b) ∧ (o = σ ∨ ∃ v, o = σ.set w (some v)) ∧ ∀ b ∈ Sq, (∃ o, H' b = some o) ∧ ∀ ys, H b = some (.lst ys) → ∃ ys', H' b = some (.lst ys') ∧ ys'.length ≤ ys.length + m) ?_ ?_ ?_ ?_
  · exact ⟨fun _ _ => rfl, .inl rfl, fun b m => ⟨let ⟨o, e, _⟩ := at_ b m; ⟨o, e⟩, fun ys e => ⟨ys, e, Nat.le_refl _⟩⟩⟩
  · rintro i o H' hi ⟨h1, _⟩
    exact SqL.of ((h1 p pq).trans hp)
  · rintro i x o H' hx ⟨h1, h2, h3⟩
    obtain ⟨b, ys, rfl, mb, hb, lb⟩ := RRpAll.at_lst ra al i x hx
    obtain ⟨_, h4⟩ := h3 b mb
    obtain ⟨ys', hb', lb'⟩ := h4 ys hb
    have hi : i < xs.length := (List.getElem?_eq_some_iff.mp hx).1
    have lx := ra.len
    have ow : w < o.length := by
      rcases h2 with rfl | ⟨v, rfl⟩
      · exact hw
      · rw [List.length_set]; exact hw
    have h5 : ∃ v, o.set w (some (.ref b)) = σ.set w (some v) := by
      rcases h2 with rfl | ⟨v, rfl⟩
      · exact ⟨_, rfl⟩
      · exact ⟨_, by rw [List.set_set]⟩
    refine ⟨.ref b, List.getElem?_set_self ow, .inl ⟨rfl, ys', SqL.of hb'⟩, b, ys', .str s, rfl, rfl, hb', gl_line (by omega), fun c nc => ?_, .inr h5, fun c mc => ?_⟩
    · rw [upd_ne (show c ≠ b from fun z => nc (z ▸ mb))]; exact h1 c nc
    · by_cases z : c = b
      · subst z
        refine ⟨⟨_, upd_same⟩, fun zs e => ⟨_, upd_same, ?_⟩⟩
        rw [hb] at e; cases e
        rw [List.length_append, List.length_singleton]; omega
      · rw [upd_ne z]
        refine ⟨(h3 c mc).1, fun zs e => ?_⟩
        obtain ⟨ys2, e2, l2⟩ := (h3 c mc).2 zs e
        exact ⟨ys2, e2, by omega⟩
  · rintro o H' ⟨h1, h2, h3⟩
    exact fin H' o h1 (fun b m => (h3 b m).1) h2
theorem vs_rgEachL (i w : Nat) {x y s : Str} {j : Nat} {py pw p1 : Pos} {apos cpos spos : Pos} (C : Cv X T EX B) (po : PassesOwn (model X.prog X.w) X.A X.env X.xe) (hi : X.N[i]? = some x := by rfl) (hw : X.N[w]? = some y := by rfl)
    (vi : Vis X.env.scope x := by first | exact Or.inl rfl | exact Or.inr (Or.inl rfl) | exact Or.inr (Or.inr rfl)) (vw : Vis X.env.scope y := by first | exact Or.inl rfl | exact Or.inr (Or.inl rfl) | exact Or.inr (Or.inr rfl)) (lw : Loc X.env.scope y := by first | exact .inl rfl | exact .inr rfl) (fw : X.fn y = true ∨ X.env.scope.names.lookup y = some .local := by first | exact .inl rfl | exact .inr rfl)
    (di : (x == ("__debug__" : Str)) = false := by decide) (ci : (x == ("__classdict__" : Str)) = false := by decide) (dw : (y == ("__debug__" : Str)) = false := by decide) (cw : (y == ("__classdict__" : Str)) = false := by decide) (hline : (apos.endLine == cpos.line) = true := by rfl) :
    VS X T EX B (.For (.Name y py) (.Name x px) [.Expr (.Call (.Attribute (.Name y pw) "append" apos) [.Constant (.str s) j p1] [] cpos) spos] [] pos) (sRgEachL i w) := by
  refine ps_weak (ps_for (tb := tbApp X.K w s) po C.calm (pi_list (pe_var hi vi di ci)) (pg_name (i := w) C.nd hw lw fw) (pss_one (ps_expr (pe_bm PySem.F.plainAttrs_list PySem.F.slot_list_append PySem.F.type_list_append mt_append (pe_var hw vw dw cw) (pa_cons pe_str pa_nil rfl) rfl rfl hline rfl rfl) rfl)) fun _ => rfl) fun D σ H q => ?_
  obtain ⟨G, env, S, o⟩ := q
  unfold sRgEachL at o
  split at o
  rotate_left
  · exact o.elim
  rename_i qs ei
  split at o
  rotate_left
  · exact o.elim
  rename_i js ej
  split at o
  rotate_left
  · exact o.elim
  rename_i ne
  unfold eachJ at ej
  split at ej
  rotate_left
  · cases ej
  rename_i cj
  cases ej
  obtain ⟨u, v, F, hv, ra, ap⟩ := S.rg i _ ei
  have rp := ra.rp
  cases rp with
  | lst h q =>
    rename_i p vs Sq
    have n1 := List.nodup_cons.mp ra.nd
    have hwl : w < σ.length := S.len ▸ ne.2
    refine ⟨.ref p, hv, p, rfl, ⟨vs, SqL.of h⟩, each_turns (T := T) (G := G) hwl h n1.1 q cj.1 cj.2 fun H' o' k k2 ho => ?_⟩
    have S2 := S.wrR (r' := .lst (qs.map fun _ => .jk)) (F' := [p]) (H' := H') ei hv ra ap (fun b nb => k b fun z => nb (List.mem_cons_of_mem _ z)) (fun b m => by
      rcases List.mem_cons.mp m with rfl | m
      · exact ⟨_, (k _ n1.1).trans h⟩
      · exact k2 b m) (.lst (S := []) ((k p n1.1).trans h) (jks_rrp q.len)) (by simp)
    rcases ho with rfl | ⟨v2, rfl⟩
    · exact o G _ H' (Same.refl _) (S2.forget w)
    · exact o G _ H' (Same.refl _) (S2.setNone (i := w))
theorem vs_rgEachF (i c j w : Nat) {x y s cx fn : Str} {jj : Nat} {py pw p1 : Pos} {apos cpos spos : Pos} (C : Cv X T EX B) (po : PassesOwn (model X.prog X.w) X.A X.env X.xe) (oc : Oc X.K X.mg T cx c) (hf : (clsFlds c)[j]? = some fn := by rfl) (ndf : (clsFlds c).Nodup := by decide +kernel) (hi : X.N[i]? = some x := by rfl) (hw : X.N[w]? = some y := by rfl)
    (vi : Vis X.env.scope x := by first | exact Or.inl rfl | exact Or.inr (Or.inl rfl) | exact Or.inr (Or.inr rfl)) (vw : Vis X.env.scope y := by first | exact Or.inl rfl | exact Or.inr (Or.inl rfl) | exact Or.inr (Or.inr rfl)) (lw : Loc X.env.scope y := by first | exact .inl rfl | exact .inr rfl) (fw : X.fn y = true ∨ X.env.scope.names.lookup y = some .local := by first | exact .inl rfl | exact .inr rfl)
    (di : (x == ("__debug__" : Str)) = false := by decide) (ci : (x == ("__classdict__" : Str)) = false := by decide) (dw : (y == ("__debug__" : Str)) = false := by decide) (cw : (y == ("__classdict__" : Str)) = false := by decide) (hline : (apos.endLine == cpos.line) = true := by rfl) :
    VS X T EX B (.For (.Name y py) (.Attribute (.Name x px) fn p2) [.Expr (.Call (.Attribute (.Name y pw) "append" apos) [.Constant (.str s) jj p1] [] cpos) spos] [] pos) (sRgEachF i c j w) := by
  refine ps_weak (ps_for (tb := tbApp X.K w s) po C.calm (pi_list (pe_fld (pe_var hi vi di ci) rfl)) (pg_name (i := w) C.nd hw lw fw) (pss_one (ps_expr (pe_bm PySem.F.plainAttrs_list PySem.F.slot_list_append PySem.F.type_list_append mt_append (pe_var hw vw dw cw) (pa_cons pe_str pa_nil rfl) rfl rfl hline rfl rfl) rfl)) fun _ => rfl) fun D σ H q => ?_
  obtain ⟨G, env, S, o⟩ := q
  unfold sRgEachF at o
  split at o
  rotate_left
  · exact o.elim
  rename_i c' rs ei
  split at o
  rotate_left
  · exact o.elim
  rename_i ec
  subst ec
  split at o
  rotate_left
  · exact o.elim
  rename_i qs eq
  split at o
  rotate_left
  · exact o.elim
  rename_i js ej
  split at o
  rotate_left
  · exact o.elim
  rename_i ne
  unfold eachJ at ej
  split at ej
  rotate_left
  · cases ej
  rename_i cj
  cases ej
  have er := subL_eq eq
  obtain ⟨a, dx, vs, S0, p, xs, Sq, hv', h, ll, g1, g2, g3, g4, g5, g6, g8, ra, ap, fin⟩ := rg_open S ei er
  refine ⟨.ref a, hv', a, _, dx, _, .ref p, rfl, h, oc.cl, oc.na fn (List.mem_of_getElem? hf), zip_lookup (by rw [oc.fl]; exact ndf) (by rw [oc.fl]; exact hf) g1, p, rfl, ⟨xs, SqL.of g2⟩, each_turns (T := T) (G := G) (S.len ▸ ne.2) g2 g5 g3 cj.1 cj.2 fun H' o' k k2 ho => ?_⟩
  have S2 := fin H' xs (qs.map fun _ => .jk) [] (fun b nb => k b fun z => nb (List.mem_cons_of_mem _ z)) k2 ((k p g5).trans g2) (jks_rrp g3.len) (List.nil_sublist _)
  rcases ho with rfl | ⟨v2, rfl⟩
  · exact o G _ H' (Same.refl _) (S2.forget w)
  · exact o G _ H' (Same.refl _) (S2.setNone (i := w))
/-- x = [list(w) for w in e] on one line -/
theorem vs_rgLL (i w : Nat) {y wn : Str} {py pw pl pw2 pc : Pos} {iter : Expr} {scope : Scope} {spos : Pos} (C : Cv X T EX B) (hi : VE X T EX B iter f) (ok : BlkOk X.N X.env.scope scope [(wn, w)]) (hwn : X.N[w]? = some wn := by rfl)
    (lw : ∀ (s : Shared) (H : Hp) (C : Addr) (cl : List (Str × Addr)) (fp : List Addr), PG (X.blk s H scope (compEnvC scope cl C X.env) fp) (.Name wn pw) (gName w))
    (le : ∀ (s : Shared) (H : Hp) (C : Addr) (cl : List (Str × Addr)) (fp : List Addr), PE (X.blk s H scope (compEnvC scope cl C X.env) fp) (.Call (.Name "list" pl) [.Name wn pw2] [] pc) (tCB (rList X.K) (tCons (tVar w) tNil)))
    (hs : ∀ x, foldedSetIterable iter X.env x = pure x := by intro _; rfl)
    (hy : X.N[i]? = some y := by rfl) (hyl : X.env.scope.names.lookup y = some .local := by rfl) (hsw : swapsWith (.ListComp (.Call (.Name "list" pl) [.Name wn pw2] [] pc) [⟨.Name wn pw, iter, [], 0⟩] scope pos) (some (.Name y py)) spos.line X.env = pure true := by exact sw_true rfl rfl rfl (by decide +kernel)) :
    VS X T EX B (.Assign [.Name y py] (.ListComp (.Call (.Name "list" pl) [.Name wn pw2] [] pc) [⟨.Name wn pw, iter, [], 0⟩] scope pos) spos) (sRgLL i w f) := ps_weak (ps_setLc C.calm C.nd hy hyl hsw (pi_list hi) ok lw (fun _ _ _ _ _ => pts_nil) le hs) fun D σ H q => by
  obtain ⟨G, env, S, o⟩ := q
  refine seqS S o fun v _ o => Out.fz fun x G' H' s rp => ?_
  have S1 := S.step s
  have o := o.step s.gg
  split at o
  rotate_left
  · exact o.elim
  rename_i ws ew
  rw [ew] at rp
  split at o
  rotate_left
  · exact o.elim
  rename_i wss es
  split at o
  rotate_left
  · exact o.elim
  rename_i cn
  have em := asLsts_map es
  subst em
  obtain ⟨l, xs, rfl, sq, q1⟩ := Dq.lstInv rp
  have hwl : w < σ.length := S.len ▸ cn.2.2
  refine ⟨l, rfl, ⟨xs, sqL_K (S1.gh.seq sq)⟩, fun D' hD => lc_lists (T := T) (G := G') (wss := wss) (i := w) hwl S1.gh (S1.gh.seq sq) q1 hD cn.1 fun Hc acc F h1 h2 h3 h4 h5 h6 => ?_⟩
  have st : Step G' H' G' Hc := ⟨.of h1, Same.refl _, fun b o e => h1 b o (S1.gh b o e), fun _ a b => absurd a b, fun n => n⟩
  refine o G' _ Hc (Same.refl _) ((S1.step st).setRg cn.2.1 (F := D' :: F) ⟨.lst h2 h3, List.nodup_cons.mpr ⟨h5, h4⟩, fun a m => ?_⟩ fun j ds p e1 e2 m => ?_)
  · have : H' a = none := by
      rcases List.mem_cons.mp m with rfl | m
      · exact hD
      · exact h6 a m
    exact ⟨same_none S1.gh this, SameH.free S1.st.hh this⟩
  · obtain ⟨p', ys, g1, g2, _⟩ := S1.ow j ds e1
    rw [e2] at g1; cases g1
    have : H' p = none := by
      rcases List.mem_cons.mp m with rfl | m
      · exact hD
      · exact h6 p m
    rw [g2] at this; cases this
theorem vs_rgAppL (i : Nat) {x : Str} (he : VE X T EX B e f) (hN : X.N[i]? = some x := by rfl) (hv : Vis X.env.scope x := by first | exact Or.inl rfl | exact Or.inr (Or.inl rfl) | exact Or.inr (Or.inr rfl)) (hd : (x == ("__debug__" : Str)) = false := by decide) (hcd : (x == ("__classdict__" : Str)) = false := by decide)
    (hline : (apos.endLine == cpos.line) = true := by rfl) (hs : starEach [e] X.env = [(false, eval e X.env)] := by rfl) :
    VS X T EX B (.Expr (.Call (.Attribute (.Name x px) "append" apos) [e] [] cpos) pos) (sRgAppL i f) := by
  refine ps_weak (ps_expr (pe_bm PySem.F.plainAttrs_list PySem.F.slot_list_append PySem.F.type_list_append mt_append (pe_var hN hv hd hcd) (va_cons he va_nil hs) rfl (by rw [hs]; rfl) hline hs rfl) rfl) fun D σ H q => ?_
  obtain ⟨G, env, S, o⟩ := q
  unfold sRgAppL at o
  split at o
  rotate_left
  · exact o.elim
  rename_i qs ei
  obtain ⟨u, v, F, hv', ra, ap⟩ := S.rg i _ ei
  have rp := ra.rp
  cases rp with
  | lst h q =>
    rename_i p xs Sq
    refine ⟨.ref p, hv', .inl ⟨rfl, xs, SqL.of h⟩, args1 (D := D) (K := fun a => match a with | .sh d => if qs.length ≤ 1000000 then .nx (env.set i (some (.rg (.lst (qs ++ [.dat d]))))) else .stuck | _ => .stuck) S ?_ fun w v G1 H1 s1 rp S1 o1 => ?_⟩
    · revert o
      cases evA [f] env with
      | val as =>
        cases as with
        | nil => exact fun o => o
        | cons a r =>
          cases r with
          | nil => cases a <;> exact fun o => o
          | cons _ _ => exact fun o => by cases a <;> exact o
      | err c => exact fun o => o
      | stuck => exact fun o => o
    · cases w with
      | ow _ => exact o1.elim
      | ob _ _ => exact o1.elim
      | rg _ => exact o1.elim
      | sh d =>
        dsimp only at o1
        split at o1
        rotate_left
        · exact o1.elim
        rename_i hl
        have ra1 := ra.step s1
        obtain ⟨_, ka⟩ := s1.keepS (fun b m => (ra.nw b m).1) (RRp.at _ _ _ ra.rp)
        have n1 := List.nodup_cons.mp ra.nd
        have h1 : H1 p = some (.lst xs) := (ka p List.mem_cons_self).trans h
        have q1 := RRpAll.mono (T' := T) (H' := upd H1 p (.lst (xs ++ [v]))) s1.gg rfl rfl _ _ _ q fun b m => (upd_ne (show b ≠ p from fun z => n1.1 (z ▸ m))).trans (ka b (List.mem_cons_of_mem _ m))
        have z := RRpAll.snoc (S' := []) (.dat rp) q1
        rw [List.append_nil] at z
        refine ⟨p, xs, v, rfl, rfl, h1, by rw [q.len]; exact gl_line hl, o1 G1 σ _ (Same.refl _) (S1.wrR (F' := p :: Sq) ei hv' ra1 ap (fun b nb => upd_ne fun z => nb (z ▸ List.mem_cons_self)) (fun b m => ?_) (.lst upd_same z) (List.Sublist.refl _))⟩
        rcases List.mem_cons.mp m with rfl | m
        · exact ⟨_, upd_same⟩
        · obtain ⟨o, eo, _⟩ := RRpAll.at _ _ _ z b m
          exact ⟨o, eo⟩
end
end VL
namespace VL
open PySem L2
/-! ### x -= e, len(set(x)), list(range(n)), x = {} -/
@[simp] def sSub (i : Nat) (f : FE) : FS := fun env => match env[i]? with
  | some (some (.sh (.int x))) => (match f env with
    | .val (.sh (.int y)) => .nx (env.set i (some (.sh (.int (x - y)))))
    | .err c => .err c
    | _ => .stuck)
  | _ => .stuck
/-- how many items a list of unlike ints has, as a set -/
@[simp] def fLenSet : D → R
  | .list ds => (match intsOf ds with
    | some ns => if ns.Nodup ∧ ns.length ≤ 4000 then ri (ns.length : Nat) else .stuck
    | none => .stuck)
  | _ => .stuck
@[simp] def fListRg : D → R
  | .int n => if 0 ≤ n ∧ n ≤ 1000000 then .val (.ow (rngD 0 1 n.toNat)) else .stuck
  | _ => .stuck
@[simp] def fDivW : D → D → R
  | .int i, .int j => if 0 < j ∧ j < 2 ^ 400 then ri (i / j) else .stuck
  | _, _ => .stuck
@[simp] def noObE : Option SV → Bool
  | some (.ob _ _) => false
  | some (.rg _) => false
  | _ => true
/-- x = {}, then the rest -/
def sTab (i : Nat) (s : FS) : FS := fun env => if env.all noObE = true then (match s (env.set i (some (.ob 101 []))) with
  | .rt (.sh d) => .rt (.sh d)
  | .rt (.ow ds) => .rt (.ow ds)
  | .err c => .err c
  | _ => .stuck) else .stuck
section
variable {X : Cx} {T : Ct} {EX : XK} {B : Hp × Hp} {e a : Expr} {pos p p2 q : Pos} {f : FE} {G H : Hp} {Q : VK} {rest : List Stmt} {s : FS}
theorem vs_sub (i : Nat) {x : Str} {px : Pos} (C : Cv X T EX B) (he : VE X T EX B e f) (hN : X.N[i]? = some x := by rfl) (hx : Loc X.env.scope x := by first | exact .inl rfl | exact .inr rfl) (hf : X.fn x = true ∨ X.env.scope.names.lookup x = some .local := by first | exact .inl rfl | exact .inr rfl) :
    VS X T EX B (.AugAssign (.Name x px) .Sub e pos) (sSub i f) := ps_weak (ps_aug C.nd hN hx he ip_sub hf) fun D σ H q => by
  obtain ⟨G, env, S, o⟩ := q
  unfold sSub at o
  split at o
  · rename_i dx e
    obtain ⟨v, h1, h2⟩ := S.sh i _ e
    refine ⟨v, h1, G, env, S, ?_⟩
    split at o
    · rename_i y ey
      rw [ey]
      intro w G' H' s' dy
      rw [h2.intInv, dy.intInv]
      exact ⟨_, _, rfl, rfl, o G' _ H' s'.gg ((S.step s').setSh .int)⟩
    · rename_i c ey
      rw [ey]; exact fun H' z => o H' (S.st.hh.trans z)
    · exact o.elim
  · exact o.elim
theorem ve_lenSet (C : Cv X T EX B) (t1 : Bt X "len") (t2 : Bt X "set") (ha : VE X T EX B a f) (na : starEach [a] X.env = (false, eval a X.env) :: starEach [] X.env := by rfl) : VE X T EX B (.Call (.Name "len" p) [.Call (.Name "set" p2) [a] [] q] [] pos) (op1 fLenSet f) :=
  pe_weak (RZ.pe_lenSetI t1.gl t1.mg t2.gl t2.mg ha C.calm na) fun σ H Q q => use1 (r := fun x H1 Q => ∃ (l : Addr) (ns : List Int), x = .ref l ∧ SqL X.K H1 l (ns.map V.int) ∧ ns.Nodup ∧ ns.length ≤ 4000 ∧ Q (.int (ns.length : Nat)) H1) (fun x dx G H gh hx o => by
    unfold fLenSet at o
    split at o
    · split at o
      · rename_i ns en
        split at o
        · rename_i c
          obtain ⟨l, xs, rfl, s1, q1⟩ := hx.lstH gh
          have := intsOf_ok en q1
          subst this
          exact ⟨l, ns, rfl, sqL_K s1, c.1, c.2, o.ri gh⟩
        · exact o.elim
      · exact o.elim
    · exact o.elim) q
theorem rg_dq (n : Int) (h : 0 ≤ n) : DqAll G (rgV 0 n) (rngD 0 1 n.toNat) := by
  have e : (n - 0).toNat = n.toNat := by rw [Int.sub_zero]
  unfold rgV rngD
  rw [e]
  generalize List.range n.toNat = L
  induction L with
  | nil => exact .nil
  | cons a L ih =>
    rw [List.map_cons, List.map_cons]
    refine .cons ?_ ih
    rw [Int.mul_one]
    exact .int
theorem ve_listRg (C : Cv X T EX B) (t1 : Bt X "list") (t2 : Bt X "range") (ha : VE X T EX B a f) (na : starEach [.Call (.Name "range" p2) [a] [] q] X.env = (false, eval (.Call (.Name "range" p2) [a] [] q) X.env) :: starEach [] X.env := by rfl) (nb : starEach [a] X.env = (false, eval a X.env) :: starEach [] X.env := by rfl) : VE X T EX B (.Call (.Name "list" p) [.Call (.Name "range" p2) [a] [] q] [] pos) (op1 fListRg f) :=
  pe_weak (pe_listRg C.calm t1.gl t1.mg (prg_1 t2.gl t2.mg ha nb) na) fun σ H Q q => use1 (r := fun x H1 Q => ∃ n, x = .int n ∧ (L2.RgOk 0 n ∧ ∀ q, H1 q = none → Q (.ref q) (upd H1 q (.lst (rgV 0 n))))) (fun x dx G H gh hx o => by
    unfold fListRg at o
    split at o
    · rename_i n
      split at o
      · rename_i c
        rw [hx.intInv]
        exact ⟨n, rfl, RgOk.of_le (by omega) (by omega) (by omega) (by omega), o.newL gh (rg_dq n c.1)⟩
      · exact o.elim
    · exact o.elim) q
theorem Sim.tab {env : VEnv} {σ : L2.St} (S : Sim T B G env σ H) {i : Nat} {r : Addr} (hr : H r = none) (n : env.all noObE = true) : Sim { T with me := some r } B G (env.set i (some (.ob 101 []))) (σ.set i (some (.ref r))) (upd H r (.dT [])) := by
  have st : Step G H G (upd H r (.dT [])) := Step.apart S.gh hr _
  have S1 := S.step st
  have nob : ∀ (j : Nat) c fs, env[j]? ≠ some (some (.ob c fs)) := fun j c fs z => by
    have := List.all_eq_true.mp n _ (List.mem_of_getElem? z)
    simp at this
  have nrg : ∀ (j : Nat) r, env[j]? ≠ some (some (.rg r)) := fun j r z => by
    have := List.all_eq_true.mp n _ (List.mem_of_getElem? z)
    simp at this
  have S2 : Sim { T with me := some r } B G env σ (upd H r (.dT [])) :=
    ⟨S1.st, S1.nb, ⟨fun b z => by cases z; exact ⟨_, upd_same, memK_nil⟩, S1.me.2⟩, S1.len, S1.sh, fun j c fs z => absurd z (nob j c fs), S1.ow, S1.ap, fun j r z => absurd z (nrg j r)⟩
  refine S2.setOb ?_
  unfold ObRp
  rw [if_neg (by decide), if_pos rfl]
  exact ⟨r, rfl, rfl⟩
theorem vss_tab (i : Nat) {x : Str} {pos' : Pos} (C : Cv X T EX B) (h : ∀ me : Addr, VSs X { T with me := some me } EX B rest s) (hi : X.N[i]? = some x := by rfl) (hx : Loc X.env.scope x := by first | exact .inl rfl | exact .inr rfl) (hs : swapsWith (.Dict [] [] p) (some (.Name x pos')) pos.line X.env = pure false := by rfl) (hf : X.fn x = true ∨ X.env.scope.names.lookup x = some .local := by first | exact .inl rfl | exact .inr rfl) :
    VSs X T EX B (.Assign [.Name x pos'] (.Dict [] [] p) pos :: rest) (sTab i s) := by
  have hr : PSs X rest (fun D σ H => ∃ me : Addr, rdS { T with me := some me } EX B s D σ H) := ⟨fun pins s' σ H D I ⟨me, q⟩ => (h me).run pins s' σ H D I q⟩
  refine pss_weak (pss_cons (ps_set C.nd hi hx pe_dnewT hs hf) hr) fun D σ H q => ?_
  obtain ⟨G, env, S, o⟩ := q
  intro r hr
  unfold sTab at o
  split at o
  rotate_left
  · exact o.elim
  rename_i n
  refine ⟨r, G, _, S.tab hr n, ?_⟩
  revert o
  cases s (env.set i (some (.ob 101 []))) with
  | nx e => exact fun o => o.elim
  | stuck => exact fun o => o
  | err c => exact fun o => o
  | rt v =>
    cases v with
    | sh d => exact fun o => o
    | ow ds => exact fun o => o
    | ob _ _ => exact fun o => o.elim
    | rg _ => exact fun o => o.elim
theorem ve_fdivW {b : Expr} {g : FE} (ha : VE X T EX B a f) (hb : VE X T EX B b g) : VE X T EX B (.BinOp a .FloorDiv b pos) (op2 fDivW f g) := by
  refine ve_bin op_fdivW (fun Q x y dx dy G H gh hx hy o => ?_) ha hb
  unfold fDivW at o
  split at o
  · rename_i i j
    rw [hx.intInv, hy.intInv]
    split at o
    · rename_i hm
      refine ⟨_, _, rfl, rfl, ⟨hm.1, ?_⟩, o.ri gh⟩
      have h0 : j.natAbs ≠ 0 := by omega
      have h1 : j.natAbs < 2 ^ 400 := by omega
      exact Nat.lt_trans ((Nat.log2_lt h0).mpr h1) (by omega)
    · exact o.elim
  · exact o.elim
theorem Cv.tab (C : Cv X T EX B) (me : Addr) : Cv X { T with me := some me } EX B := ⟨C.calm, C.nd, C.pass, C.un, C.gd⟩
end
end VL
namespace VL
open PySem L2
/-! ### a call that sees nothing of the tables of code objects -/
def Hid : HO → Prop
  | .tbl _ => True
  | .frz _ (.own _) => True
  | _ => False
open Classical in
noncomputable def low (H : Hp) : Hp := fun b => match H b with
  | some o => if Hid o then none else some o
  | none => none
open Classical in
noncomputable def back (H H' : Hp) : Hp := fun b => match H b with
  | some o => if Hid o then some o else H' b
  | none => H' b
section
variable {P : Program} {w : World} {H H' : Hp} {h h' : Heap} {fs : List Addr} {b : Addr} {o : HO}
theorem low_none (e : H b = none) : low H b = none := by unfold low; rw [e]
theorem low_hid (e : H b = some o) (n : Hid o) : low H b = none := by unfold low; rw [e]; exact if_pos n
theorem low_at (e : H b = some o) (n : ¬ Hid o) : low H b = some o := by unfold low; rw [e]; exact if_neg n
theorem low_inv (e : low H b = some o) : H b = some o ∧ ¬ Hid o := by
  unfold low at e
  split at e
  · rename_i u q
    split at e
    · cases e
    · rename_i n; cases e; exact ⟨q, n⟩
  · cases e
theorem low_no (e : low H b = none) : H b = none ∨ ∃ o, H b = some o ∧ Hid o := by
  cases q : H b with
  | none => exact .inl rfl
  | some u =>
    by_cases n : Hid u
    · exact .inr ⟨u, rfl, n⟩
    · rw [low_at q n] at e; cases e
theorem back_hid (e : H b = some o) (n : Hid o) : back H H' b = some o := by unfold back; rw [e]; exact if_pos n
theorem back_at (e : H b = some o) (n : ¬ Hid o) : back H H' b = H' b := by unfold back; rw [e]; exact if_neg n
theorem back_none (e : H b = none) : back H H' b = H' b := by unfold back; rw [e]
theorem low_same {G : Hp} (g : Same G H) (n : NoMem G) : Same G (low H) := fun b o e => low_at (g b o e) fun z => n b o e (by
  unfold Hid at z
  split at z
  · trivial
  · trivial
  · exact z.elim)
theorem low_ok (x : HOk P w H h) : HOk P w (low H) h := fun a o e => by
  obtain ⟨e1, n⟩ := low_inv e
  refine (x a o e1).stay (fun b u _ z => z) (fun b z => low_at z (fun q => q)) fun b xs z => low_at z fun q => q
/-- what was hidden is hidden still -/
def Apart (H H' : Hp) : Prop := ∀ b o, H b = some o → Hid o → H' b = none
theorem un_apart (ok : HOk P w H h) (u : Un fs [] (low H) H' h h') : Apart H H' := fun b o e n => by
  obtain ⟨ob, hb⟩ : ∃ ob, h.get? b = some ob := by
    cases o with
    | tbl ps => exact ⟨_, ok b _ e⟩
    | frz ob u => exact ⟨_, (ok b _ e).1⟩
    | _ => exact n.elim
  exact u.free b ob hb (low_hid e n) (by simp)
theorem un_back (ok : HOk P w H h) (u : Un fs [] (low H) H' h h') : Un fs [] H (back H H') h h' where
  keep := fun b o e n => u.keep b o e (low_none n)
  slot := fun b o e n => u.slot b o e (low_none n)
  free := fun b o e n z => by rw [back_none n]; exact u.free b o e (low_none n) z
  there := u.there
  tups := fun b xs e => by rw [back_at e (fun q => q)]; exact u.tups b xs (low_at e fun q => q)
  frzs := fun b o v e => by
    by_cases n : Hid (.frz o v)
    · exact back_hid e n
    · rw [back_at e n]; exact u.frzs b o v (low_at e n)
  tbls := fun b ps e => ⟨#[], by rw [back_hid e trivial]; simp⟩
theorem ok_back (ok : HOk P w H h) (nf : ∀ b ∈ fs, H b = none) (u : Un fs [] (low H) H' h h') (ok' : HOk P w H' h') : HOk P w (back H H') h' := fun a o e => by
  have ap := un_apart ok u
  have up : ∀ b v, H' b = some v → back H H' b = some v := fun b v z => by
    cases q : H b with
    | none => rw [back_none q]; exact z
    | some x =>
      by_cases n : Hid x
      · rw [ap b x q n] at z; cases z
      · rw [back_at q n]; exact z
  have kp : ∀ b v ob, H b = some v → Hid v → h.get? b = some ob → h'.get? b = some ob := fun b v ob z n hb => u.keep b ob hb (low_hid z n) (fun m => by rw [nf b m] at z; cases z) (by simp)
  cases q : H a with
  | none =>
    rw [back_none q] at e
    exact (ok' a o e).stay (fun b u _ z => z) (fun b z => up b _ z) fun b xs z => up b _ z
  | some v =>
    by_cases n : Hid v
    · rw [back_hid q n] at e
      cases e
      have z := ok a _ q
      cases o with
      | tbl ps => exact kp a _ _ q n z
      | frz ob x =>
        cases x with
        | own y => exact ⟨kp a _ _ q n z.1, _, kp a _ _ q n z.1⟩
        | _ => exact n.elim
      | _ => exact n.elim
    · rw [back_at q n] at e
      exact (ok' a o e).stay (fun b u _ z => z) (fun b z => up b _ z) fun b xs z => up b _ z
theorem same_back (s : SameH (low H) H') : SameH H (back H H') := fun b o e => by
  by_cases n : Hid o
  · exact ⟨o, back_hid e n, .inl rfl⟩
  · obtain ⟨o', e', z⟩ := s b o (low_at e n)
    refine ⟨o', by rw [back_at e n]; exact e', z.imp id fun z => ⟨z.1, z.2.1, ?_⟩⟩
    rcases z.2.2 with z | ⟨ps, _, rfl, _⟩
    · exact .inl z
    · exact absurd trivial n
theorem step_back {G G' : Hp} (ap : Apart H H') (s : Step G (low H) G' H') : Step G H G' (back H H') := by
  refine ⟨same_back s.hh, s.gg, fun b o e => ?_, fun a h1 h2 => ?_, s.nm⟩
  · have z := s.gh b o e
    cases q : H b with
    | none => rw [back_none q]; exact z
    | some x =>
      by_cases n : Hid x
      · rw [ap b x q n] at z; cases z
      · rw [back_at q n]; exact z
  · rcases low_no (s.nw a h1 h2) with z | ⟨x, q, n⟩
    · exact z
    · exfalso
      cases z : G' a with
      | none => exact h2 z
      | some v =>
        have y := s.gh a v z
        rw [ap a x q n] at y
        cases y
end
/-! ### all that is not tracked is fixed while another def runs -/
noncomputable def bigB (X : Cx) (s : Shared) (H : Hp) : Heap := hidT s.heap fun b => if b ∈ frs X.stack then some (.own 0) else low H b
section
variable {X : Cx} {pins : List (Addr × Obj)} {σ : L2.St} {H H' : Hp} {s s' : Shared} {b : Addr} {ob : Obj}
theorem big_get (e : s.heap.get? b = some ob) (n : low H b = none) (nf : b ∉ frs X.stack) : (bigB X s H).get? b = some ob := hidT_get e (by rw [if_neg nf]; exact n)
theorem of_big (e : (bigB X s H).get? b = some ob) : s.heap.get? b = some ob ∧ low H b = none ∧ b ∉ frs X.stack := by
  obtain ⟨e1, e2⟩ := of_hidT e
  by_cases m : b ∈ frs X.stack
  · rw [if_pos m] at e2; cases e2
  · rw [if_neg m] at e2; exact ⟨e1, e2, m⟩
theorem big_base (I : Inv X pins σ H s) (e : X.base.get? b = some ob) : (bigB X s H).get? b = some ob := by
  obtain ⟨e1, e2⟩ := I.bs b ob e
  refine big_get e1 (low_none e2) fun m => ?_
  have := (I.env0.funs.mem m).1
  rw [e] at this; cases this
theorem funs_big {h base : Heap} (k : ∀ b, b ∈ frs X.stack → base.get? b = none) : ∀ {l : List Env} {B : Heap}, h.FunFrames B l → (∀ b ∈ frs l, b ∈ frs X.stack) → h.FunFrames base l
  | [], _, _, _ => trivial
  | env :: r, B, ⟨h1, ⟨L, o, h2, h3, h4, h5⟩, h6⟩, s => ⟨h1, ⟨L, o, h2, k L (s L (by unfold frs; rw [List.filterMap_cons, h2]; exact List.mem_cons_self)), h4, h5⟩, funs_big k h6 fun b m => s b (by
    unfold frs at m ⊢
    rw [List.filterMap_cons, h2]
    exact List.mem_cons_of_mem _ m)⟩
theorem env_big (I : Inv X pins σ H s) : Env0 X.prog X.w X.K X.mg (bigB X s H) X.A X.stack s (low H) := by
  have e0 := I.env0
  have up : ∀ b o, X.base.get? b = some o → (bigB X s H).get? b = some o := fun b o e => big_base I e
  refine ⟨e0.frames, ⟨e0.mod.kin.keeps up, e0.mod.glob.keeps up, ?_, e0.mod.nolimit.keeps up⟩, fun b o e => ?_, Nat.le_of_eq (hidT_size _ _), funs_big (fun b m => ?_) e0.funs fun _ m => m, fun b m => low_none (e0.frf b m), low_ok e0.hok, e0.bare⟩
  · obtain ⟨mb, h1, h2⟩ := e0.mod.blt
    exact ⟨mb, h1.keeps up, h2⟩
  · obtain ⟨e1, e2, _⟩ := of_big e
    exact ⟨e1, e2⟩
  · cases q : (bigB X s H).get? b with
    | none => rfl
    | some o => exact absurd m (of_big q).2.2
/-- a def is called by a promise over the greater base -/
theorem run_big {CX : CXT} {k : Nat} {g : Addr} {fd : FuncData} {ps : List Str} {sp : Sp} {us : List Value} {xs : List V} {Q : VK} (I : Inv X pins σ H s) (F : FnGd X.prog X.w X.K X.mg (bigB X s H) (L2.CX X.prog X.w) k g fd ps sp) (hq : X.A.guards = some []) (hr : Room k X.A) (hb : Binds X.K fd ps []) (r : Vals xs us)
    (h : sp xs (low H) (fun v H' => Apart H H' → Q v (back H H')) fun _ _ _ => False) : wpAny (model X.prog X.w) X.A (call (.ref g) us) (EP X pins σ Q) X.xe s := by
  have n1 : us.length = ps.length := (r.length).symm.trans (F.ln _ _ _ _ h)
  have n2 : BindsTo s fd ⟨us, []⟩ (ps.zip us) := by
    have n3 := hb s us I.kIn (by rwa [List.append_nil])
    rwa [List.append_nil] at n3
  refine wpAny_call (codeAny_mono (F.go X.A X.stack s (low H) ⟨us, []⟩ us xs _ _ hq hr (env_big I) n2 r h) fun z s2 w => ?_)
  rcases z with z | z
  · obtain ⟨_, _, _, _, _, _, _, _, _, _, _, _, w⟩ := w
    exact w.elim
  · cases z with
    | ret u =>
      obtain ⟨v, H2, os, br, un, ok, rv, q⟩ := w
      exact I.after ⟨v, back H H2, os, br, un_back I.hok un, ok_back I.hok I.stkFree un ok, rv, q (un_apart I.hok un)⟩
    | next => exact w.elim
    | brk => exact w.elim
    | cont => exact w.elim
end
end VL
namespace VL
open PySem L2
/-! ### a lambda of one parameter, all that it needs in the base -/
structure LamSc (scope : Scope) (p : Str) (ys : List Str) : Prop where
  kind : scope.kind = .function
  co : scope.isCoroutine = false
  gen : scope.isGenerator = false
  own : ∀ y ∈ scope.names, y.2 ≠ .cell
  par : scope.names.lookup p = some .local
  only : ∀ y ∈ p :: ys, Vis scope y → y = p ∨ scope.names.lookup y = some .free
  nd : (p :: ys).Nodup
def lamScB (scope : Scope) (p : Str) (ys : List Str) : Bool :=
  decide (scope.kind = .function) && !scope.isCoroutine && !scope.isGenerator && (scope.names.all fun y => !decide (y.2 = .cell)) && decide (scope.names.lookup p = some .local) && (ys.all fun y => decide (scope.names.lookup y = some .free)) && decide (p :: ys).Nodup
theorem lamSc_by {scope : Scope} {p : Str} {ys : List Str} (h : lamScB scope p ys = true) : LamSc scope p ys := by
  unfold lamScB at h
  simp only [Bool.and_eq_true, Bool.not_eq_true', decide_eq_true_eq, List.all_eq_true, decide_eq_false_iff_not] at h
  obtain ⟨⟨⟨⟨⟨⟨h1, h2⟩, h3⟩, h4⟩, h5⟩, h6⟩, h7⟩ := h
  refine ⟨h1, h2, h3, h4, h5, fun y m _ => ?_, h7⟩
  rcases List.mem_cons.mp m with m | m
  · exact .inl m
  · exact .inr (h6 y m)
abbrev lamE (q : Str) (scope : Scope) (L f c : Addr) (cl : List (Str × Addr)) : Env := PySem.W.envX q scope L f (.ref c) cl
/-- its body's context -/
def lamX (P : Program) (w : World) (K : PySem.W.Frag) (mg : Str → Option Value) (base : Heap) (N : List Str) (q : Str) (scope : Scope) (f c : Addr) (cl : List (Str × Addr)) (A : Around) (ou : List Env) (s : Shared) (H : Hp) (E : XK) : Cx where
  prog := P
  w := w
  K := K
  mg := mg
  base := base
  A := A.deeper (lamE q scope s.heap.objs.size f c cl)
  N := N
  s_0 := s
  H_0 := H
  env := lamE q scope s.heap.objs.size f c cl
  outer := ou
  stack := lamE q scope s.heap.objs.size f c cl :: ou
  ex := []
  fn := fun _ => false
  calm := true
  pn := []
  xe := fun e z => wpAny (model P w) (A.deeper (lamE q scope s.heap.objs.size f c cl)) (leaving (lamE q scope s.heap.objs.size f c cl) e) (fun _ z2 => L2.CX P w ou H s E e z2) (fun e2 z2 => L2.CX P w ou H s E e2 z2) z
section
variable {P : Program} {w : World} {A : Around} {R : Result → Shared → Prop} {s : Shared}
/-- a lambda called, whatever its code object is called -/
theorem lam_call {f : Addr} {ar : Args} {ob oc : Obj} {fd : FuncData} {body : Expr} {c : Addr} {vs : Array Value} {q : Str} {tq : Tok} (room : A.depth < recursionLimit) (hf : s.heap.get? f = some ob) (hd : ob.data = .func fd) (n1 : fd.scope.isCoroutine = false) (n2 : fd.scope.isGenerator = false) (hb : fd.body = .expr body)
    (hc : fd.code = .ref c) (ho : s.heap.get? c = some oc) (hv : oc.data = .fields vs) (hq : vs[1]? = some (.str q tq))
    (k : wpAny (model P w) A.in1 (bindArgs fd ar) (fun bs z => wpAny (model P w) A.in1 (newFunctionEnv fd.scope fd.globals fd.closure bs (q ++ ".<locals>.") (some f) (.ref c) none fd.builtins) (fun en z2 => z2.heap.NoLimit ∧ codeAny (model P w) A (.expr body en) R z2) (fun e z2 => R (.error e) z2) z) (fun e z => R (.error e) z) s) :
    codeAny (model P w) A (.call (.ref f) ar) R s := by
  apply codeAny_of_tree
  show wpAny _ A.in1 (callAny (Value.ref f) ar) _ _ _
  simp only [callAny]
  apply wpAny_bind
  apply wpAny_load hf
  simp only [hd, callFunction, n1, n2, hb, hc]
  refine wpAny_bind (m := field (.ref c) 1) (wpAny_field ho hv hq (wpAny_bind (wpAny_pure (wpAny_bind (wpAny_mono k ?_ ?_)))))
  · intro bs z kz
    refine wpAny_bind (wpAny_mono kz ?_ fun _ _ x => x)
    intro en z2 kz2
    exact wpAny_bind (wpAny_enterFrame kz2.1 room (wpAny_pure ⟨rfl, kz2.2⟩))
  · exact fun _ _ x => x
end
/-- what a lambda's cells are in the base -/
structure Clo (base : Heap) (scope : Scope) (cl : List (Str × Addr)) : Prop where
  inj : ∀ x y c, cl.lookup x = some c → cl.lookup y = some c → x = y
  has : ∀ x, scope.names.lookup x = some .free → ∃ c, cl.lookup x = some c
  cell : ∀ x c, cl.lookup x = some c → ∃ o v, base.get? c = some o ∧ o.data = .cell v
def errOf : R → R
  | .err c => .err c
  | _ => .stuck
noncomputable def uni (G G' : Hp) : Hp := fun b => match G b with
  | some o => some o
  | none => G' b
section
variable {P : Program} {w : World} {K : PySem.W.Frag} {mg : Str → Option Value} {base : Heap} {T : Ct} {k : Nat} {G G' H : Hp}
theorem uni_l : Same G (uni G G') := fun b o e => by unfold uni; rw [e]
theorem uni_h (h : Same G H) (h' : Same G' H) : Same (uni G G') H := fun b o e => by
  unfold uni at e
  split at e
  · rename_i q; cases e; exact h b _ q
  · exact h' b o e
theorem uni_r (h : Same G H) (h' : Same G' H) : Same G' (uni G G') := fun b o e => by
  unfold uni
  split
  · rename_i u q
    have z := h b u q
    rw [h' b o e] at z
    exact z.symm
  · exact e
theorem uni_nm (h : NoMem G) (h' : NoMem G') : NoMem (uni G G') := fun b o e => by
  unfold uni at e
  split at e
  · rename_i q; cases e; exact h b _ q
  · exact h' b o e
theorem vrp_app : ∀ {vs ws : List V} {as bs : List SV}, VRpAll T G vs as → VRpAll T G ws bs → VRpAll T G (vs ++ ws) (as ++ bs)
  | _, _, _, _, .nil, h => h
  | _, _, _, _, .cons x t, h => .cons x (vrp_app t h)
theorem lam_inv {A : Around} {ou : List Env} {s : Shared} {E : XK} {q p : Str} {ys : List Str} {scope : Scope} {f c : Addr} {cl : List (Str × Addr)} {h1 : Heap} {tk : Nat} {v : V} {u : Value} {cw : List V} (S : LamSc scope p ys) (L : Clo base scope cl) (e0 : Env0 P w K mg base A ou s H) (hd : A.handled = none) (rv : RelV v u)
    (hn : h1.Ns s.heap.objs.size fun y => ([(p, u)] : List (Str × Value)).reverse.lookup y) (kp : ∀ b o, s.heap.get? b = some o → h1.get? b = some o)
    (lw : cw.length = ys.length) (hc : ∀ (i : Nat) y, ys[i]? = some y → ∃ c o u v, cl.lookup y = some c ∧ base.get? c = some o ∧ o.data = .cell (some u) ∧ RelV v u ∧ cw[i]? = some v) :
    Inv (lamX P w K mg base (p :: ys) q scope f c cl A ou s H E) [] (some v :: cw.map some) H { s with heap := h1, toks := tk } := by
  have no : ∀ b : Addr, b ∉ (lamX P w K mg base (p :: ys) q scope f c cl A ou s H E).ex := fun b z => absurd (show b ∈ ([] : List Addr) from z) (by simp)
  have cl1 : ∀ {c : Addr} {o : Obj} {x : Option Value}, base.get? c = some o → o.data = .cell x → h1.IsCell c x := fun {c o x} e d => ⟨o, kp _ _ (e0.bs _ _ e).1, d⟩
  refine ⟨⟨e0.mod, S.kind, rfl, rfl, Nat.le_refl _, L.inj, fun y hy => ?_, fun y c z _ => ?_, fun _ => hd, Around.frames_deeper e0.frames, .inr ⟨rfl, rfl⟩, fun b z => absurd z (no b), e0.bs, e0.bsz, fun b _ _ => no b, fun b z => absurd z (no b), e0.funs, e0.frf⟩,
    rfl, e0.bare, Un.kept kp, ⟨_, hn, fun i y x g1 g2 g3 => ?_⟩, fun y c e => ?_, e0.hok.fresh (Nat.le_refl _), fun y c e => ?_, fun r hr => absurd (show r ∈ ([] : List (Addr × Obj)) ++ [] from hr) (by simp), e0.hok.kept kp, ?_⟩
  · rcases (show scope.names.lookup y = some .cell ∨ scope.names.lookup y = some .free from hy) with z | z
    · exact absurd rfl (S.own _ (PySem.mem_of_lookup z))
    · exact L.has y z
  · exact absurd (show false = true from z) (by decide)
  · have g3 : Vis scope y := g3
    have g1 : (p :: ys)[i]? = some y := g1
    cases i with
    | zero =>
      simp only [List.getElem?_cons_zero, Option.some.injEq] at g1 g2
      subst g1 g2
      exact ⟨u, rv, .inl ⟨S.par, by simp [List.lookup]⟩⟩
    | succ i =>
      simp only [List.getElem?_cons_succ] at g1 g2
      obtain ⟨c, o, u', v', a1, a2, a3, a4, a5⟩ := hc i y g1
      rw [List.getElem?_map, a5] at g2
      have g2 : v' = x := Option.some.inj (Option.some.inj g2)
      subst g2
      have fr : scope.names.lookup y = some .free := by
        rcases S.only y (List.mem_cons_of_mem _ (List.mem_of_getElem? g1)) g3 with z | z
        · have := (List.nodup_cons.mp S.nd).1
          rw [← z] at this
          exact absurd (List.mem_of_getElem? g1) this
        · exact z
      exact ⟨u', a4, .inr ⟨.inr fr, c, a1, cl1 a2 a3⟩⟩
  · obtain ⟨o, x, e1, e2⟩ := L.cell y c e
    exact ⟨x, cl1 e1 e2⟩
  · obtain ⟨o, x, e1, e2⟩ := L.cell y c e
    exact (e0.bs _ _ e1).2
  · show (some v :: cw.map some).length = (p :: ys).length
    simp [lw]
/-- it is called as it is due, where it raises -/
theorem lam_gd {f c : Addr} {p q0 : Str} {ys : List Str} {params : Arguments} {body : Expr} {scope : Scope} {cl : List (Str × Addr)} {pm ct : Value} {oc : Obj} {fb : FE} {cw : List V} {cs : List SV}
    (ho : base.get? f = some (PySem.W.kla_obj "<lambda>" q0 params body scope cl pm c ct)) (hoc : base.get? c = some oc) (hcd : CdO oc) (S : LamSc scope p ys) (L : Clo base scope cl)
    (lw : cw.length = ys.length) (hc : ∀ (i : Nat) y, ys[i]? = some y → ∃ c o u v, cl.lookup y = some c ∧ base.get? c = some o ∧ o.data = .cell (some u) ∧ RelV v u ∧ cw[i]? = some v) (rc : VRpAll T T.gc cw cs)
    (hb : ∀ (q : Str) (A : Around) (ou : List Env) (s : Shared) (H : Hp) (E : XK) (B : Hp × Hp), Room k (A.deeper (lamE q scope s.heap.objs.size f c cl)) → Cv (lamX P w K mg base (p :: ys) q scope f c cl A ou s H E) T E B → VE (lamX P w K mg base (p :: ys) q scope f c cl A ou s H E) T E B body fb) :
    FnGd P w K mg base (L2.CX P w) (k + 1) f (PySem.W.kla_fn "<lambda>" q0 params body scope cl pm (.ref c) ct) [p] (spV T 1 fun as => errOf (fb ((as ++ cs).map some))) := by
  refine ⟨fun xs H Q E h => ?_, fun A ou s H ar us xs Q E hq hr e0 hbi hv h => ?_⟩
  · obtain ⟨G, as, _, _, _, r, hl, _⟩ := h
    rw [vrp_len r, hl]; rfl
  obtain ⟨G, as, gh, nm, mo, rp, hl, o⟩ := h
  obtain ⟨vs, q, tq, d1, d2⟩ := hcd
  obtain ⟨a1, rfl⟩ : ∃ a, as = [a] := List.length_eq_one_iff.mp hl
  cases rp with
  | cons r1 rp =>
    cases rp
    rename_i v
    cases hv with
    | cons rv hv =>
      cases hv
      rename_i u
      have gu : Same (uni G T.gc) H := uni_h gh mo.2.1
      refine lam_call hr.depth (e0.bs _ _ ho).1 rfl S.co S.gen rfl rfl (e0.bs _ _ hoc).1 d1 d2 (hbi _ _ _ _ (wpAny_newFunctionEnv S.own (fun y hy => ?_) (fun h1 hn hs => ?_) S.kind))
      · have : y = (p, u) := by simpa using hy
        rw [this]; exact S.par
      · have kp : ∀ b o, s.heap.get? b = some o → h1.get? b = some o := fun b o e => hs.extBut b o (Nat.ne_of_lt (Heap.lt_size e)) (Heap.get?_push_of_some _ e)
        refine ⟨e0.mod.nolimit.keeps fun b o e => kp b o (e0.bs b o e).1, ?_⟩
        have J := lam_inv (E := E) (q := q) (f := f) (c := c) (tk := s.toks + ([p].zip [u]).length) (ys := ys) S L e0 hr.hd rv hn kp lw hc
        have hr2 := hr.deeper (lamE q scope s.heap.objs.size f c cl)
        have C : Cv (lamX P w K mg base (p :: ys) q scope f c cl A ou s H E) T E (uni G T.gc, H) := ⟨rfl, S.nd, passes_call (takes_of rfl rfl rfl rfl) fun _ _ _ _ z => z, by
          have := hr2.un
          show (A.deeper (lamE q scope s.heap.objs.size f c cl)).units + 150 < cLine
          omega, hq⟩
        have st := sim_start (T := T) (G := uni G T.gc) (H := H) (vs := v :: cw) (as := a1 :: cs) (p :: ys).length gu (uni_nm nm mo.2.2) mo (.cons (r1.mono uni_l) (VRpAll.mono (uni_r gh mo.2.1) rc)) (p :: ys) rfl
        have lc : cs.length = ys.length := by rw [← vrp_len rc, lw]
        have ee : (a1 :: cs).map some ++ List.replicate ((p :: ys).length - (a1 :: cs).length) none = ([a1] ++ cs).map some := by simp [lc]
        have es : L2.start (p :: ys) (v :: cw) = some v :: cw.map some := by simp [L2.start, lw]
        rw [ee, es] at st
        refine PySem.W.kla_codeExpr (wpAny_mono ((hb q A ou s H E _ hr2 C).run [] _ _ H Q J ⟨_, _, st, ?_⟩) (fun x z y => ?_) fun _ _ y => y)
        · have o : Out T E (errOf (fb (([a1] ++ cs).map some))) G H Q := o
          revert o
          cases fb (([a1] ++ cs).map some) with
          | err c => exact fun o => o
          | val _ => exact fun o => o.elim
          | stuck => exact fun o => o
        · obtain ⟨x', H2, J2, rx, y⟩ := y
          exact ⟨x', H2, J2.os, J2.bare, J2.base, J2.hok, rx, y⟩
end
end VL
namespace VL
open PySem L2
/-! ### a lambda is made -/
section
variable {X : Cx} {pins : List (Addr × Obj)} {σ : L2.St} {H H' : Hp} {s s' : Shared}
theorem grow_same {P c : Addr} {ps : Array Value} {pos : Pos} {oc : Obj} (hP : H P = some (.tbl ps)) (nc : H c = none) (cd : CdO oc) : SameH H (upd (upd H P (.tbl (ps ++ #[rawInt pos.line, rawInt pos.col, .ref c]))) c (.frz oc (.own c))) := fun b o e => by
  have nb : b ≠ c := ne_of_none e nc
  by_cases z : b = P
  · subst z
    rw [hP] at e
    cases e
    refine ⟨.tbl (ps ++ #[rawInt pos.line, rawInt pos.col, .ref c]), by rw [upd_ne nb, upd_same], .inr ⟨trivial, trivial, .inr ⟨ps, _, rfl, rfl, fun g => ?_⟩⟩⟩
    have eL : (ps ++ #[rawInt pos.line, rawInt pos.col, .ref c]).toList = ps.toList ++ [rawInt pos.line, rawInt pos.col, .ref c] := by simp
    refine ⟨by rw [eL]; exact PySem.TriplesOk_snoc _ _ _ _ g.1, fun p2 cv hc => ?_⟩
    rw [eL] at hc
    rcases LamX.among_app _ g.1 hc with y | y
    · obtain ⟨c2, o2, a, e1, e2, e3⟩ := g.2 p2 cv y
      refine ⟨c2, o2, a, e1, ?_, e3⟩
      rw [upd_ne (ne_of_none e2 nc), upd_ne (fun q => by rw [q, hP] at e2; cases e2)]
      exact e2
    · exact ⟨c, oc, c, y, upd_same, cd⟩
  · exact ⟨o, by rw [upd_ne nb, upd_ne z]; exact e, .inl rfl⟩
theorem grow_inv {P c : Addr} {ps more : Array Value} {h2 : Heap} {t2 : Nat} {oc : Obj} (I : Inv X pins σ H s) (hP : H P = some (.tbl ps)) (kp : ∀ b o, b ≠ P → s.heap.get? b = some o → h2.get? b = some o)
    (hT : h2.get? P = some { cls := .none, data := .fields (ps ++ more) }) (hc : s.heap.objs.size ≤ c) (ho : h2.get? c = some oc) : Inv X pins σ (upd (upd H P (.tbl (ps ++ more))) c (.frz oc (.own c))) { s with heap := h2, toks := t2 } := by
  have nc : H c = none := I.hok.fresh hc
  have oth : ∀ {b : Addr}, b ≠ P → b ≠ c → upd (upd H P (.tbl (ps ++ more))) c (.frz oc (.own c)) b = H b := fun {b} n m => by rw [upd_ne m, upd_ne n]
  have pc : P ≠ c := ne_of_none hP nc
  have pT : upd (upd H P (.tbl (ps ++ more))) c (.frz oc (.own c)) P = some (.tbl (ps ++ more)) := by rw [upd_ne pc, upd_same]
  have nP0 : ∀ {b : Addr}, H b = none → b ≠ P := fun e z => by rw [z, hP] at e; cases e
  have nP1 : ∀ {b : Addr} {u : HO}, H b = some u → (∀ q, u ≠ .tbl q) → b ≠ P := fun e n z => by rw [z, hP] at e; exact n _ (Option.some.inj e).symm
  have nC : ∀ {b : Addr} {o : Obj}, s.heap.get? b = some o → b ≠ c := fun e z => by rw [z] at e; exact Nat.lt_irrefl _ (Nat.lt_of_lt_of_le (Heap.lt_size e) hc)
  have nC1 : ∀ {b : Addr} {u : HO}, H b = some u → b ≠ c := fun e => ne_of_none e nc
  refine I.step (ch := []) (g' := s.gens) (d' := s.drawn) (fun b m => absurd m (by simp)) (fun b o _ _ _ e n => kp b o (nP0 n) e) (fun b o _ _ _ e n => ⟨o.slots, kp b o (nP0 n) e⟩) (fun b o _ e n => by rw [oth (nP0 n) (nC e)]; exact n) (fun b o _ e => ?_)
    (fun b xs e => by rw [oth (nP1 e fun q z => by cases z) (nC1 e)]; exact e) (fun b o u e => by rw [oth (nP1 e fun q z => by cases z) (nC1 e)]; exact e) (fun b qs e => ?_) (fun m hm => ?_) (fun b u e => ?_) I.bare
  · by_cases z : b = P
    · subst z; exact ⟨_, hT⟩
    · exact ⟨o, kp b o z e⟩
  · by_cases z : b = P
    · subst z
      rw [hP] at e; cases e
      exact ⟨more, pT⟩
    · exact ⟨#[], by rw [oth z (nC1 e), e]; simp⟩
  · obtain ⟨ob, es, ep, e, r⟩ := hm
    exact ⟨ob, es, ep, kp _ ob (nP0 I.free) e, r⟩
  · by_cases z : b = c
    · subst z
      rw [upd_same] at e; cases e
      exact ⟨ho, oc, ho⟩
    · by_cases y : b = P
      · subst y
        rw [pT] at e; cases e
        exact hT
      · rw [oth y z] at e
        refine (I.hok b u e).stay (fun d v hd q => kp d v ?_ q) (fun d q => by rw [oth (nP1 q fun q z => by cases z) (nC1 q)]; exact q) fun d xs q => by rw [oth (nP1 q fun q z => by cases z) (nC1 q)]; exact q
        rcases hd with x | x
        · rw [x]; exact y
        · exact nP1 x fun q z => by cases z
/-- what is made, and what is known of it -/
structure Made (X : Cx) (H1 : Hp) (s1 : Shared) (f c : Addr) (params : Arguments) (body : Expr) (scope : Scope) (ob oc : Obj) : Prop where
  eo : ∃ pm ct, ob = PySem.W.kla_obj "<lambda>" (X.env.qual ++ "<lambda>") params body scope (cloFrom X.env.cells scope.names []) pm c ct
  hf : s1.heap.get? f = some ob
  nf : H1 f = none
  fr : f ∉ frs X.stack
  fl : f ≠ X.env.locals
  co : H1 c = some (.frz oc (.own c)) ∨ ∃ a, H1 c = some (.frz oc (.own a))
  cd : CdO oc
theorem lam_make {c P : Addr} {params : Arguments} {body : Expr} {scope : Scope} {pos : Pos} {E : Value → Shared → Prop} {Q : Value → Shared → Prop} (I : Inv X pins σ H s) (TB : LamX.TabB X.base X.mg c P) (hcode : X.env.code = .ref c) (hP : ∃ ps, H P = some (.tbl ps) ∧ Good H ps)
    (hdef : defaultsOf params X.env = ([], [])) (hfree : ∀ y ∈ scope.names, y.2 = .free → ∃ c, X.env.cells.lookup y.1 = some c)
    (h : ∀ (f c1 : Addr) (ob oc : Obj) (H1 : Hp) (s1 : Shared), Inv X pins σ H1 s1 → SameH H H1 → Made X H1 s1 f c1 params body scope ob oc → Q (.ref f) s1) :
    wpAny (model X.prog X.w) X.A (eval (.Lambda params body scope pos) X.env) Q E s := by
  obtain ⟨ps, hP, gd⟩ := hP
  have hT : s.heap.get? P = some { cls := .none, data := .fields ps } := I.hok P _ hP
  have bP := TB.bm.keeps I.bk
  have sz : ∀ {f : Addr}, s.heap.objs.size ≤ f → f ∉ frs X.stack ∧ f ≠ X.env.locals := fun {f} hf => by
    have nl : f ≠ X.env.locals := fun z => by
      have z2 := I.lt
      rw [← z] at z2
      exact Nat.lt_irrefl _ (Nat.lt_of_lt_of_le z2 hf)
    refine ⟨fun z => ?_, nl⟩
    rcases List.mem_cons.mp (I.stkSub _ z) with e | e
    · exact nl e
    · exact I.nofs hf e
  refine PySem.W.kla_eval hdef ?_
  cases hc : codeAmong pos ps.toList with
  | none =>
    refine PySem.W.kla_makeFunction (mg := X.mg) (c := c) (P := P) (closure_ok hfree) I.ok.glob (I.mod.glob.keeps I.bk) hcode (TB.code.keeps I.bk) hT gd.1 hc TB.gP bP fun c1 ct h2 tk hx hge hlt hrec htb => ?_
    obtain ⟨c2, oc, vs, t, e2, hoc, hd, hv⟩ := hrec
    cases e2
    have s2 : s.heap.objs.size ≤ h2.objs.size := Nat.le_trans hge (Nat.le_of_lt hlt)
    have nc : H c1 = none := I.hok.fresh hge
    have cd : CdO oc := ⟨vs, _, t, hd, hv⟩
    have fP : h2.objs.size ≠ P := Nat.ne_of_gt (Nat.lt_of_lt_of_le (Heap.lt_size hT) s2)
    refine h h2.objs.size c1 _ oc _ _ (grow_inv (more := #[rawInt pos.line, rawInt pos.col, .ref c1]) I hP (fun b o n e => Heap.get?_push_of_some _ (hx b o n e)) (Heap.get?_push_of_some _ htb) hge (Heap.get?_push_of_some _ hoc)) (grow_same hP nc cd) ⟨⟨_, ct, rfl⟩, Heap.get?_push_size _ rfl, ?_, (sz s2).1, (sz s2).2, .inl upd_same, cd⟩
    rw [upd_ne (Nat.ne_of_gt hlt), upd_ne fP]
    exact I.hok.fresh s2
  | some cv =>
    obtain ⟨c1, oc, a, rfl, hco, cd⟩ := gd.2 pos cv hc
    refine PySem.W.kla_makeFunctionHit (mg := X.mg) (c := c) (P := P) (closure_ok hfree) I.ok.glob (I.mod.glob.keeps I.bk) hcode (TB.code.keeps I.bk) hT gd.1 hc bP fun ct h2 tk hx s2 => ?_
    exact h h2.objs.size c1 _ oc H _ (I.kept fun b o e => Heap.get?_push_of_some _ (hx b o e)) (SameH.refl _) ⟨⟨_, ct, rfl⟩, Heap.get?_push_size _ rfl, I.hok.fresh s2, (sz s2).1, (sz s2).2, .inr ⟨a, hco⟩, cd⟩
end
end VL
namespace VL
open PySem L2
/-! ### f(lambda x: .., ..) -/
/-- a callable in the base -/
def FnV (P : Program) (w : World) (K : PySem.W.Frag) (mg : Str → Option Value) (base : Heap) (T : Ct) (k : Nat) (f : Addr) (n : Nat) (m : List SV → R) : Prop :=
  ∃ fd ps, FnGd P w K mg base (L2.CX P w) k f fd ps (spV T n m) ∧ (∃ oc od sl, base.get? f = some ⟨oc, od, .func fd, sl⟩) ∧ Binds K fd ps []
abbrev Ct.cal (T : Ct) (f : Nat → Addr) (G : Hp) : Ct := { T with fv := f, tb := [], gc := G }
def capS (env : VEnv) : List Nat → Option (List SV)
  | [] => some []
  | j :: js => match env[j]?, capS env js with
    | some (some (.sh d)), some cs => some (.sh d :: cs)
    | _, _ => none
def allSh : List SV → Bool
  | [] => true
  | .sh _ :: r => allSh r
  | _ => false
def shR : R → R
  | .val (.sh d) => .val (.sh d)
  | _ => .stuck
def calL (n : Nat) (M : (List SV → R) → List SV → R) (fb : FE) (js : List Nat) (fs : List FE) : FE := fun env => match capS env js, evA fs env with
  | some cs, .val as => if as.length + 1 = n ∧ allSh as = true then shR (M (fun bs => errOf (fb ((bs ++ cs).map some))) (.ob 104 [.int 0] :: as)) else .stuck
  | _, _ => .stuck
structure LamOk (N : List Str) (sc scope : Scope) (p : Str) (ys : List Str) (js : List Nat) : Prop where
  L : LamSc scope p ys
  fr : ∀ y ∈ scope.names, y.2 = .free → sc.names.lookup y.1 = some .cell
  hj : ∀ (i : Nat) y, ys[i]? = some y → ∃ j, js[i]? = some j ∧ N[j]? = some y ∧ (y, NameKind.free) ∈ scope.names
  lj : js.length = ys.length
def lamOkB (N : List Str) (sc scope : Scope) (p : Str) (ys : List Str) (js : List Nat) : Bool :=
  lamScB scope p ys && (scope.names.all fun y => !decide (y.2 = .free) || decide (sc.names.lookup y.1 = some .cell)) && decide (js.map (fun j => N[j]?) = ys.map some) && ys.all fun y => decide ((y, NameKind.free) ∈ scope.names)
theorem lamOk_by {N : List Str} {sc scope : Scope} {p : Str} {ys : List Str} {js : List Nat} (h : lamOkB N sc scope p ys js = true) : LamOk N sc scope p ys js := by
  unfold lamOkB at h
  simp only [Bool.and_eq_true, Bool.or_eq_true, Bool.not_eq_true', decide_eq_true_eq, decide_eq_false_iff_not, List.all_eq_true] at h
  obtain ⟨⟨⟨h1, h2⟩, h3⟩, h4⟩ := h
  have lj : js.length = ys.length := by
    have := congrArg List.length h3
    simpa using this
  refine ⟨lamSc_by h1, fun y m e => ?_, fun i y e => ?_, lj⟩
  · rcases h2 y m with z | z
    · exact absurd e z
    · exact z
  · have li : i < js.length := by rw [lj]; exact (List.getElem?_eq_some_iff.mp e).1
    have z := congrArg (fun l : List (Option Str) => l[i]?) h3
    simp only [List.getElem?_map, e, Option.map_some, List.getElem?_eq_getElem li] at z
    exact ⟨js[i], List.getElem?_eq_getElem li, Option.some.inj z, h4 y (List.mem_of_getElem? e)⟩
theorem df_at {K : PySem.W.Frag} {mg : Str → Option Value} {x q : Str} {st : Stmt} {ps : List Str} (d : Df K mg x q st ps) : ∃ g, mg x = some (.ref g) ∧ PySem.W.keepIn K (.ref g) = true := by
  obtain ⟨f, fd, F, hm, _⟩ := d
  exact ⟨f, hm, F.kp⟩
section
variable {X : Cx} {T T' : Ct} {EX : XK} {B : Hp × Hp} {pins : List (Addr × Obj)} {σ : L2.St} {G H H' : Hp} {s s' : Shared} {env : VEnv}
theorem sh_other : ∀ {vs : List V} {as : List SV}, allSh as = true → VRpAll T G vs as → VRpAll T' G vs as
  | _, _, _, .nil => .nil
  | _, a :: as, n, .cons h t => by
    cases a with
    | sh d => exact .cons h (sh_other n t)
    | ow _ => cases n
    | ob _ _ => cases n
    | rg _ => cases n
theorem cap_read (S : Sim T B G env σ H) : ∀ {js : List Nat} {cs : List SV}, capS env js = some cs → ∃ cw : List V, VRpAll T' G cw cs ∧ cw.length = js.length ∧ ∀ (i j : Nat), js[i]? = some j → ∃ v, cw[i]? = some v ∧ σ[j]? = some (some v)
  | [], cs, e => by
    unfold capS at e
    cases e
    exact ⟨[], .nil, rfl, fun i j z => by simp at z⟩
  | j :: js, cs, e => by
    unfold capS at e
    split at e
    · rename_i d cs' e1 e2
      cases e
      obtain ⟨cw, h1, h2, h3⟩ := cap_read S e2
      obtain ⟨v, h4, h5⟩ := S.sh j d e1
      refine ⟨v :: cw, .cons h5 h1, by rw [List.length_cons, List.length_cons, h2], fun i j' z => ?_⟩
      cases i with
      | zero => simp at z; subst z; exact ⟨v, rfl, h4⟩
      | succ i => simp at z; simpa using h3 i j' z
    · cases e
theorem clo_look {cells : List (Str × Addr)} {scope : Scope} {y : Str} {c : Addr} (hm : (y, NameKind.free) ∈ scope.names) (e : cells.lookup y = some c) : (cloFrom cells scope.names []).lookup y = some c := by
  obtain ⟨c2, h2⟩ := mem_lookup (cloFrom_has (cells := cells) (acc := []) hm)
  rcases cloFrom_mem (PySem.mem_of_lookup h2) with z | ⟨_, z⟩
  · cases z
  · rw [h2, z, e]; rfl
theorem clo_back {scope : Scope} (fr : ∀ y ∈ scope.names, y.2 = .free → ∃ c, X.env.cells.lookup y.1 = some c) {y : Str} {c : Addr} (e : (cloFrom X.env.cells scope.names []).lookup y = some c) : X.env.cells.lookup y = some c := by
  rcases cloFrom_mem (PySem.mem_of_lookup e) with z | ⟨h1, h2⟩
  · cases z
  · obtain ⟨c1, h3⟩ := fr _ h1 rfl
    have h3 : X.env.cells.lookup y = some c1 := h3
    rw [h3] at h2 ⊢
    rw [h2]; rfl
theorem cell_fr (I : Inv X pins σ H s) (hfn : X.fn = fun _ => true) {y : Str} {c : Addr} (e : X.env.cells.lookup y = some c) : c ∉ frs X.stack := fun m => by
  rcases List.mem_cons.mp (I.stkSub _ m) with z | z
  · exact I.cne y c e z
  · have h1 := I.ok.cab y c (by rw [hfn]) e
    obtain ⟨_, o, ho, _⟩ := I.ok.funs.mem z
    exact Nat.lt_irrefl _ (Nat.lt_of_lt_of_le (Heap.lt_size ho) h1)
theorem clo_big {scope : Scope} (I : Inv X pins σ H s) (hfn : X.fn = fun _ => true) (fr : ∀ y ∈ scope.names, y.2 = .free → ∃ c, X.env.cells.lookup y.1 = some c) : Clo (bigB X s H) scope (cloFrom X.env.cells scope.names []) where
  inj := fun x y c h1 h2 => I.ok.inj x y c (clo_back fr h1) (clo_back fr h2)
  has := fun x hx => by
    obtain ⟨c, e⟩ := fr _ (PySem.mem_of_lookup hx) rfl
    exact ⟨c, clo_look (PySem.mem_of_lookup hx) e⟩
  cell := fun x c h => by
    have e := clo_back fr h
    obtain ⟨v, o, ho, hd⟩ := I.cell x c e
    exact ⟨o, v, big_get ho (low_none (I.freeC x c e)) (cell_fr I hfn e), hd⟩
theorem me_cal {f : Nat → Addr} (S : Sim T B G env σ H) : MeO (T.cal f G) (low H) := ⟨⟨fun a z => by
    obtain ⟨kvs, e, k⟩ := S.me.1 a z
    exact ⟨kvs, low_at e fun q => q, k⟩, fun P z => nomatch z⟩, low_same S.gh (S.st.nm S.nb.1), S.st.nm S.nb.1⟩
/-- a lambda that was made and stands still: its promise over all that is not tracked -/
theorem lam_big {k : Nat} {f c : Addr} {p : Str} {ys : List Str} {js : List Nat} {cs : List SV} {params : Arguments} {body : Expr} {scope : Scope} {ob oc : Obj} {fb : FE} {fv : Nat → Addr} (I : Inv X pins σ H s) (S : Sim T B G env σ H) (hfn : X.fn = fun _ => true) (L : LamSc scope p ys)
    (fr : ∀ y ∈ scope.names, y.2 = .free → X.env.scope.names.lookup y.1 = some .cell) (hj : ∀ (i : Nat) y, ys[i]? = some y → ∃ j, js[i]? = some j ∧ X.N[j]? = some y ∧ (y, NameKind.free) ∈ scope.names) (lj : js.length = ys.length) (ec : capS env js = some cs)
    (eo : ∃ pm ct, ob = PySem.W.kla_obj "<lambda>" (X.env.qual ++ "<lambda>") params body scope (cloFrom X.env.cells scope.names []) pm c ct) (hf : s.heap.get? f = some ob) (nf : H f = none) (ff : f ∉ frs X.stack) (co : ∃ a, H c = some (.frz oc (.own a))) (cd : CdO oc)
    (hbi : ∀ (q : Str) (cl : List (Str × Addr)) (pm cv ct : Value) (us : List Value), us.length = 1 → bindArgs (PySem.W.kla_fn "<lambda>" q params body scope cl pm cv ct) ⟨us, []⟩ = pure ([p].zip us))
    (hb : ∀ (B' : Heap) (q : Str) (cl : List (Str × Addr)) (A : Around) (ou : List Env) (s : Shared) (H : Hp) (E : XK) (Bd : Hp × Hp), Room k (A.deeper (lamE q scope s.heap.objs.size f c cl)) → Cv (lamX X.prog X.w X.K X.mg B' (p :: ys) q scope f c cl A ou s H E) (T.cal fv G) E Bd → VE (lamX X.prog X.w X.K X.mg B' (p :: ys) q scope f c cl A ou s H E) (T.cal fv G) E Bd body fb) :
    FnV X.prog X.w X.K X.mg (bigB X s H) (T.cal fv G) (k + 1) f 1 fun bs => errOf (fb ((bs ++ cs).map some)) := by
  have fre : ∀ y ∈ scope.names, y.2 = .free → ∃ c, X.env.cells.lookup y.1 = some c := fun y m z => I.ok.has _ (.inl (fr y m z))
  obtain ⟨pm, ct, rfl⟩ := eo
  obtain ⟨cw, w1, w2, w3⟩ := cap_read (T' := T.cal fv G) S ec
  obtain ⟨a, co⟩ := co
  have hB := big_get (X := X) hf (low_none nf) ff
  have hC : (bigB X s H).get? c = some oc := big_get (I.hok c _ co).1 (low_hid co trivial) fun m => by
    rw [I.stkFree c m] at co; cases co
  refine ⟨_, [p], lam_gd (cw := cw) (cs := cs) hB hC cd L (clo_big I hfn fre) (by rw [w2, lj]) (fun i y ey => ?_) w1 (fun q A ou s H E Bd => hb _ q _ A ou s H E Bd), ⟨_, _, _, hB⟩, Binds.all (hbi _ _ _ _ _)⟩
  obtain ⟨j, e1, e2, e3⟩ := hj i y ey
  obtain ⟨v, e4, e5⟩ := w3 i j e1
  obtain ⟨m, hn, hl⟩ := I.loc
  have kc := fr _ e3 rfl
  have kc : X.env.scope.names.lookup y = some .cell := kc
  obtain ⟨u, rv, lk⟩ := hl j y v e2 e5 (.inr (.inl kc))
  rcases lk with ⟨z, _⟩ | ⟨_, c2, h1, o2, h2, h3⟩
  · have z : X.env.scope.names.lookup y = some .local := z
    rw [kc] at z; cases z
  · exact ⟨c2, o2, u, v, clo_look e3 h1, big_get h2 (low_none (I.freeC y c2 h1)) (cell_fr I hfn h1), h3, rv, e4⟩
theorem ve_callL {x p : Str} {n k : Nat} {c P : Addr} {M : (List SV → R) → List SV → R} {fb : FE} {js : List Nat} {ys : List Str} {params : Arguments} {body e : Expr} {es : List Expr} {scope : Scope} {lpos p0 pos : Pos} {fs : List FE}
    (C : Cv X T EX B) (hr : Room (k + 2) X.A) (hg : Gl X x) (hx : ∃ g, X.mg x = some (.ref g) ∧ PySem.W.keepIn X.K (.ref g) = true)
    (hF : ∀ (B' : Heap) (f : Addr) (G' : Hp) (m1 : List SV → R), FnV X.prog X.w X.K X.mg B' (T.cal (fun _ => f) G') (k + 1) f 1 m1 → Fn X.prog X.w X.K X.mg B' (T.cal (fun _ => f) G') (k + 2) x n (M m1))
    (TB : LamX.TabB X.base X.mg c P) (hcode : X.env.code = .ref c) (hP : P ∈ T.tb) (hfn : X.fn = fun _ => true) (ok : LamOk X.N X.env.scope scope p ys js)
    (hb : ∀ (B' : Heap) (f c1 : Addr) (G' : Hp) (q : Str) (cl : List (Str × Addr)) (A : Around) (ou : List Env) (s : Shared) (H : Hp) (E : XK) (Bd : Hp × Hp), Room k (A.deeper (lamE q scope s.heap.objs.size f c1 cl)) → Cv (lamX X.prog X.w X.K X.mg B' (p :: ys) q scope f c1 cl A ou s H E) (T.cal (fun _ => f) G') E Bd → VE (lamX X.prog X.w X.K X.mg B' (p :: ys) q scope f c1 cl A ou s H E) (T.cal (fun _ => f) G') E Bd body fb)
    (ha : VA X T EX B (e :: es) fs) (hbi : ∀ (q : Str) (cl : List (Str × Addr)) (pm cv ct : Value) (us : List Value), us.length = 1 → bindArgs (PySem.W.kla_fn "<lambda>" q params body scope cl pm cv ct) ⟨us, []⟩ = pure ([p].zip us)) (hdef : defaultsOf params X.env = ([], []) := by rfl)
    (hd : (x == ("__debug__" : Str)) = false := by decide) (hs : starEach (.Lambda params body scope lpos :: e :: es) X.env = (false, eval (.Lambda params body scope lpos) X.env) :: starEach (e :: es) X.env := by rfl) (hpl : ((backTo pos (starEach (e :: es) X.env)).any fun z => z.1) = false := by rfl) :
    VE X T EX B (.Call (.Name x p0) (.Lambda params body scope lpos :: e :: es) [] pos) (calL n M fb js fs) := by
  obtain ⟨g, hm, hk⟩ := hx
  obtain ⟨L, fr, hj, lj⟩ := ok
  refine ⟨fun pins s σ H Q I h => ?_⟩
  obtain ⟨G, env, Sm, o⟩ := h
  unfold calL at o
  split at o
  rotate_left
  · exact o.elim
  rename_i cs as ec ea
  split at o
  rotate_left
  · exact o.elim
  rename_i cond
  have fre : ∀ y ∈ scope.names, y.2 = .free → ∃ c, X.env.cells.lookup y.1 = some c := fun y m z => I.ok.has _ (.inl (fr y m z))
  refine wpAny_Call_Name_kw (ld_glob I hg hm ?_ hd)
  refine PySem.W.callWith_K (h₀ := X.base) I.ok.mod.kin hk ?_ hs hpl
  rw [hs]
  show wpAny _ _ (spliced ((false, eval (.Lambda params body scope lpos) X.env) :: backTo pos (starEach (e :: es) X.env))) _ _ s
  refine Calls.spliced_cons (lam_make I TB hcode (Sm.me.2 P hP) hdef fre fun f c1 ob oc H1 s1 I1 sh md => ?_)
  have st1 : Step G H G H1 := ⟨sh, Same.refl _, sh.up Sm.gh (Sm.st.nm Sm.nb.1), fun _ a b => absurd a b, fun n => n⟩
  have S1 := Sm.step st1
  have ffs : f ∉ X.fs := fun m => by
    rcases I1.ok.stk with z | ⟨z, z2⟩
    · exact md.fr (by rw [z]; exact m)
    · refine md.fr ?_
      rw [z]
      unfold frs
      rw [List.filterMap_cons, z2]
      exact List.mem_cons_of_mem _ m
  have I1p : Inv X ((f, ob) :: pins) σ H1 s1 := I1.pins_of fun r hr => by
    rcases List.mem_cons.mp hr with rfl | hr
    · refine ⟨md.hf, md.nf, md.fl, ffs, fun v z => ?_⟩
      obtain ⟨_, _, rfl⟩ := md.eo
      cases z
    · exact I1.pin r (List.mem_append_right _ hr)
  refine wpAny_mono (ha.run pos _ s1 σ H1 (fun vs H2 => ∃ G2, Step G H1 G2 H2 ∧ VRpAll T G2 vs as) I1p ⟨G, env, S1, ?_⟩) (fun us s2 ⟨vs, H2, I2, rv, G2, st2, rp⟩ => ?_) fun _ _ z => z
  · rw [ea]
    exact fun vs G' H' st rp => ⟨G', st, rp⟩
  have I2p : Inv X pins σ H2 s2 := I2.pins_of fun r hr => I2.pin r (List.mem_append_right _ (List.mem_cons_of_mem _ hr))
  obtain ⟨q1, q2, _, _, _⟩ := I2.pin (f, ob) (List.mem_append_right _ List.mem_cons_self)
  refine ⟨I2.kIn, ?_⟩
  have S2 := S1.step st2
  have co2 : ∃ a, H2 c1 = some (.frz oc (.own a)) := by
    rcases md.co with z | ⟨a, z⟩
    · exact ⟨_, st2.hh.code _ _ _ z⟩
    · exact ⟨a, st2.hh.code _ _ _ z⟩
  have V := lam_big (k := k) (fv := fun _ => f) (p := p) (ys := ys) (js := js) I2p S2 hfn L fr hj lj ec md.eo q1 q2 md.fr co2 md.cd hbi (fun B' q cl A ou s H E Bd => hb B' f c1 G2 q cl A ou s H E Bd)
  obtain ⟨g2, fd, ps, Fg, hm2, hk2, hb2⟩ := hF (bigB X s2 H2) f G2 _ V
  rw [hm] at hm2
  cases hm2
  refine run_big (CX := L2.CX X.prog X.w) (Q := Q) I2p Fg C.gd hr hb2 (us := .ref f :: us) (xs := .ref f :: vs) (.cons rfl rv) ?_
  refine ⟨G2, .ob 104 [.int 0] :: as, low_same S2.gh (S2.st.nm S2.nb.1), S2.st.nm S2.nb.1, me_cal S2, .cons ?_ (sh_other cond.2 rp), by rw [List.length_cons]; exact cond.1, ?_⟩
  · show ObRp _ _ _ _ _
    unfold ObRp XoR
    rw [if_neg (by decide), if_neg (by decide), if_neg (by decide), if_neg (by decide), if_pos (by decide), if_pos rfl]
    exact ⟨0, rfl, rfl⟩
  · revert o
    generalize M (fun bs => errOf (fb ((bs ++ cs).map some))) (.ob 104 [.int 0] :: as) = rr
    intro o
    cases rr with
    | err c => exact o.elim
    | stuck => exact o.elim
    | val v =>
      cases v with
      | sh d => exact fun v G' H' st dq ap => o v G' _ ((st1.trans st2).trans (step_back ap st)) dq
      | ow _ => exact o.elim
      | ob _ _ => exact o.elim
      | rg _ => exact o.elim
end
end VL
namespace VL
open PySem L2
/-! ### try: a call of what was handed in, except the errors of one class -/
@[simp] def sTryR (i : Nat) (es : List Str) (n : Nat) (m : List SV → R) (fs : List FE) (hd : Str → FS) : FS := fun env => if noX env = true then (match evA fs env with
    | .val as => if as.length = n then (match m as with
      | .val _ => .nx env
      | .err c => if c ∈ es then (match hd c (env.set i (some (.ob 100 []))) with
        | .nx e => if noX (e.set i none) = true then .nx (e.set i none) else .stuck
        | .rt (.sh d) => .rt (.sh d)
        | _ => .stuck) else .stuck
      | .stuck => .stuck) else .stuck
    | _ => .stuck) else .stuck
@[simp] def sTryV (i ia : Nat) (es : List Str) (n : Nat) (m : Nat → List SV → R) (fs : List FE) (hd : Str → FS) : FS := fun env => match env[ia]? with
  | some (some (.ob 104 [.int z])) => sTryR i es n (m z.toNat) fs hd env
  | _ => .stuck
def FnVs (P : Program) (w : World) (K : PySem.W.Frag) (mg : Str → Option Value) (base : Heap) (T : Ct) (k : Nat) (n : Nat) (m : Nat → List SV → R) : Prop := ∀ j, FnV P w K mg base T k (T.fv j) n (m j)
section
variable {X : Cx} {T : Ct} {EX : XK} {B : Hp × Hp} {e a b c o tg : Expr} {es : List Expr} {pos p p2 : Pos} {f g h : FE} {fs : List FE} {G H G1 H1 : Hp} {Q : VK} {st : Stmt} {sts : List Stmt} {s t : FS} {D : Ends} {σ : L2.St} {env : VEnv}
theorem ve_indexU {g : FE} {apos : Pos} (hu : X.A.units + 150 < cLine) (ha : VE X T EX B a f) (hb : VE X T EX B b g) (hbase : attributeBase a "index" X.env (eval a X.env) = eval a X.env := by rfl)
    (hline : (apos.endLine == pos.line) = true := by rfl) (hs : starEach [b] X.env = [(false, eval b X.env)] := by rfl) (hplain : (backTo pos (starEach [] X.env)).any (·.1) = false := by rfl)
    (hfew : ((backTo pos (starEach [b] X.env)).all (fun x => !x.1) && (backToKw pos (keywordEach [] X.env)).all (fun x => x.1.isSome)
      && decide ([b].length + ([] : List Keyword).length + (if ([] : List Keyword).isEmpty then 0 else 1) < 30)) = true := by rfl) : VE X T EX B (.Call (.Attribute a "index" apos) [b] [] pos) (vMth fIdxD f g) := by
  refine pe_weak (pe_bm PySem.F.plainAttrs_list PySem.F.slot_list_index PySem.F.type_list_index (mt_indexD (by omega)) ha (va_cons hb va_nil hs) hbase hfew hline hs hplain) fun σ H Q q => ?_
  refine rdV_mono (mth_use (r := rIndexD X.K) (fun l y ds d G H gh h1 h2 o => ?_) q) fun x H1 z => ?_
  · simp only [fIdxD] at o
    split at o
    · rename_i c
      split at o
      · rename_i j ej
        obtain ⟨hj, h3, h4⟩ := List.findIdx?_eq_some_iff_getElem.mp ej
        exact ⟨l, y, d, ds, j, ds[j], rfl, rfl, dq_dp h1 gh, dq_dp h2 gh, c.1, c.2, List.getElem?_eq_getElem hj, h3, fun m z' hm hz => by
          obtain ⟨w, hw⟩ := List.getElem?_eq_some_iff.mp hz
          have := h4 m hm
          rw [hw] at this
          simpa using this, o.ri gh⟩
      · exact o.elim
    · exact o.elim
  · obtain ⟨⟨l, xs, rfl, sq⟩, z⟩ := z
    exact ⟨.inl ⟨rfl, xs, sqL_K sq⟩, z⟩
theorem pe_callV {CX : CXT} {i k : Nat} {x : Str} {f : Addr} {fd : FuncData} {ps : List Str} {sp : Sp} {E : L2.St → XK} {t : TA} (F : FnGd X.prog X.w X.K X.mg X.base CX k f fd ps sp) (ho : ∃ oc od sl, X.base.get? f = some ⟨oc, od, .func fd, sl⟩) (hq : X.A.guards = some []) (hr : Room k X.A) (hb : Binds X.K fd ps []) (hx : ∀ σ, PassesAt CX X σ (E σ))
    (ha : PA X (e :: es) t) (hN : X.N[i]? = some x) (hv : Vis X.env.scope x) (hd : (x == ("__debug__" : Str)) = false) (hcd : (x == ("__classdict__" : Str)) = false) (he : starEach (e :: es) X.env = (false, eval e X.env) :: starEach es X.env) (hpl : (backTo pos (starEach es X.env)).any (·.1) = false) :
    PE X (.Call (.Name x p) (e :: es) [] pos) (fun σ H Q => σ[i]? = some (some (.ref f)) ∧ tCallS sp E t σ H Q) := by
  refine ⟨fun pins s σ H Q I h => ?_⟩
  obtain ⟨h1, h2⟩ := h
  obtain ⟨oc, od, sl, ho⟩ := ho
  refine wpAny_Call_Name_kw (thn ((pe_var (pos := p) hN hv hd hcd).run pins s σ H (fun v H1 => v = .ref f ∧ H1 = H) I ⟨.ref f, h1, rfl, rfl⟩) fun u s1 ⟨v, H1, I1, r1, q1⟩ => ?_)
  obtain ⟨ev, eH⟩ := q1
  subst ev
  rw [eH] at I1
  obtain rfl : u = Value.ref f := r1
  refine PySem.W.callWith_F ⟨oc, od, fd, sl, I1.bk _ _ ho⟩ (thn (ha.run pos pins s1 σ H _ I1 h2) fun us s2 ⟨xs, H2, I2, r, q⟩ => ⟨⟨oc, od, fd, sl, I2.bk _ _ ho⟩, go_in F hq hr hb (hx σ) I2 r q⟩) he hpl
theorem vs_tryV (i ia : Nat) {x n hn : Str} {k q : Nat} {m : Nat → List SV → R} {ers ds : List Str} {hd : Str → FS} {np pos' pos1 pos2 : Pos} {b₀ : Stmt} {suite : List Stmt}
    (C : Cv X T EX B) (hs : X.stack = X.env :: X.outer) (hf : X.env.frame = some X.env.locals) (F : FnVs X.prog X.w X.K X.mg X.base T k q m) (hr : Room k X.A)
    (hgh : Gl X hn) (xc : ∀ c ∈ ers, Xc X.K X.mg T hn ds c) (hc : ∃ cH, X.mg hn = some cH)
    (ha : ∀ pn xe, VA (X.tr pn xe) T E0 B (e :: es) fs)
    (hsu : ∀ (a : Addr) (oe : Obj) (pn : List (Addr × Obj)) (c : Str), c ∈ ers → Zc (.ref (T.er c)) none oe → (∃ vs, oe.data = .fields vs) → VSs (X.suite a ((a, oe) :: pn)) { T with xa := a } E0 B (b₀ :: suite) (hd c))
    (hi : X.N[i]? = some n := by rfl) (hln : X.env.kindOf n = some .local := by rfl) (hN : X.N[ia]? = some x := by rfl) (hv : Vis X.env.scope x := by first | exact Or.inl rfl | exact Or.inr (Or.inl rfl) | exact Or.inr (Or.inr rfl)) (hcd : (x == ("__classdict__" : Str)) = false := by decide)
    (hdh : (hn == ("__debug__" : Str)) = false := by decide) (hdb : (x == ("__debug__" : Str)) = false := by decide) (hst : starEach (e :: es) X.env = (false, eval e X.env) :: starEach es X.env := by rfl) (hpl : ((backTo pos1 (starEach es X.env)).any fun z => z.1) = false := by rfl)
    (hsw : swapsWith (.Call (.Name x p) (e :: es) [] pos1) none pos2.line X.env = pure false := by rfl) :
    VS X T EX B (.Try [.Expr (.Call (.Name x p) (e :: es) [] pos1) pos2] [.ExceptHandler (some (.Name hn np)) (some n) (b₀ :: suite) pos'] [] [] pos) (sTryV i ia ers q m fs hd) := by
  obtain ⟨cH, hcH⟩ := hc
  have key : ∀ j : Nat, PS X (.Try [.Expr (.Call (.Name x p) (e :: es) [] pos1) pos2] [.ExceptHandler (some (.Name hn np)) (some n) (b₀ :: suite) pos'] [] [] pos) fun D σ H => σ[ia]? = some (some (.ref (T.fv j))) ∧ rdS T EX B (sTryR i ers q (m j) fs hd) D σ H := by
    intro j
    obtain ⟨fd, ps, F, ho, hb⟩ := F j
    refine ps_weak (ps_try_as (i := i) (c := cH) (tb := fun W D σ H => σ[ia]? = some (some (.ref (T.fv j))) ∧ tCallS (spV T q (m j)) (WE W) (rdA T E0 B fs) σ H fun _ H' => D.nx σ H') (Wout := fun _ _ _ _ => False)
      (ts := fun a cls d D σ H => ∃ c, c ∈ ers ∧ cls = .ref (T.er c) ∧ d = none ∧ rdS { T with xa := a } E0 B (hd c) D σ H) hs hf C.nd hi hln ⟨hgh, hdh, .inl hcH⟩ takes0 (fun W pn xe tk _ => ?_) (fun a oe cls d pn hz hfl => ?_)) fun D σ H w => ?_
    · exact pss_one (ps_weak (ps_expr (pe_callV (X := X.tr pn xe) (E := WE W) F ho C.gd hr hb (fun σ => passAt tk σ) (ha pn xe) hN hv hdb hcd hst hpl) hsw) fun D σ H z => z)
    · refine ⟨fun pins s σ H D I z => ?_⟩
      obtain ⟨c, h1, h2, h3, z⟩ := z
      subst h2 h3
      exact (hsu a oe pn c h1 hz hfl).run pins s σ H D I z
    · obtain ⟨w0, G, env, S, o⟩ := w
      refine ⟨w0, ?_⟩
      unfold sTryR at o
      split at o
      case isFalse => exact o.elim
      rename_i nx0
      refine ⟨G, env, S, ?_⟩
      revert o
      cases evA fs env with
      | err c => exact fun o => o.elim
      | stuck => exact fun o => o.elim
      | val as =>
        intro o vs G' H' st rp
        dsimp only at o
        split at o
        case isFalse => exact o.elim
        rename_i hl
        refine ⟨G', as, st.gh, st.nm (S.st.nm S.nb.1), (S.step st).mo, rp, hl, ?_⟩
        revert o
        cases m j as with
        | stuck => exact fun o => o.elim
        | val v => exact fun o => Out.fz fun y G2 H2 s2 _ => o G2 σ H2 (st.trans s2).gg (S.step (st.trans s2))
        | err c =>
          intro o H2 sh
          dsimp only at o
          split at o
          case isFalse => exact o.elim
          rename_i hc
          obtain ⟨cH', h1, h2⟩ := (xc c hc).ct
          rw [hcH] at h1
          cases h1
          refine ⟨true, h2, fun _ a na => ⟨c, hc, rfl, rfl, G', env.set i (some (.ob 100 [])), ?_, ?_⟩, fun z => nomatch z⟩
          · have S1 : Sim T B G' env σ H2 := (S.step st).step ⟨sh, Same.refl _, sh.up st.gh (st.nm (S.st.nm S.nb.1)), fun _ u w => absurd u w, fun n => n⟩
            exact Sim.setOb (S1.other (T' := { T with xa := a }) nx0 rfl rfl rfl) (by unfold ObRp; rw [if_pos rfl])
          · revert o
            cases hd c (env.set i (some (.ob 100 []))) with
            | stuck => exact fun o => o.elim
            | err c => exact fun o => o.elim
            | rt v =>
              cases v with
              | sh d => exact fun o => o
              | ow _ => exact fun o => o.elim
              | ob _ _ => exact fun o => o.elim
              | rg _ => exact fun o => o.elim
            | nx e =>
              intro o G3 σ3 H3 sg S3
              dsimp only at o
              split at o
              case isFalse => exact o.elim
              rename_i nx1
              exact o G3 (σ3.set i none) H3 (st.gg.trans sg) (Sim.other (T := { T with xa := a }) S3.setNone nx1 rfl rfl rfl)
  refine ⟨fun pins s σ H D I h => ?_⟩
  obtain ⟨G, env, S, o⟩ := h
  unfold sTryV at o
  split at o
  · rename_i z ez
    obtain ⟨v, h1, h2⟩ := S.ob ia 104 _ ez
    unfold ObRp XoR at h2
    rw [if_neg (by decide), if_neg (by decide), if_neg (by decide), if_neg (by decide), if_pos (by decide), if_pos rfl] at h2
    obtain ⟨nn, e1, rfl⟩ := h2
    simp only [List.cons.injEq, PyData.int.injEq, and_true] at e1
    subst e1
    rw [Int.toNat_natCast] at o
    exact (key nn).run pins s σ H D I ⟨h1, G, env, S, o⟩
  · exact o.elim
end
end VL
namespace VL
open PySem L2
/-! ### a def that makes lambdas -/
/-- its code object's table is among those that are to be there -/
def MkT (K : PySem.W.Frag) (mg : Str → Option Value) (base : Heap) (T : Ct) (x : Str) : Prop := ∃ c Pt, LamX.TabB base mg c Pt ∧ Pt ∈ T.tb ∧ ∀ f o fd, mg x = some (.ref f) → K.lookup f = some o → o.data = .func fd → fd.code = .ref c
section
variable {P : Program} {w : World} {K : PySem.W.Frag} {mg : Str → Option Value} {base : Heap} {T : Ct}
theorem gd_mkC {x qu : Str} {st : Stmt} {f c : Addr} {fd : FuncData} {N ps : List Str} {k : Nat} {sp : Sp} (F : Fun K x qu st f fd) (hcode : fd.code = .ref c) (S : FnScope N ps (defScope st)) (ln : ∀ xs H Q E, sp xs H Q E → xs.length = ps.length)
    (hb : ∀ (A : Around) (ou : List Env) (s : Shared) (H : Hp) (xs : List V) (Q : VK) (E : XK), A.guards = some [] → Room k (A.deeper (PyProof.Rows.envOfC qu (defScope st) s.heap.objs.size f (.ref c))) → sp xs H Q E →
      ∃ t, PSs (cxOf (L2.CX P w) P w K mg base N qu (defScope st) f (.ref c) A ou s H E) (defBody st) t ∧ t { nx := fun _ H' => Q .non H', rt := Q } (L2.start N xs) H) : FnGd P w K mg base (L2.CX P w) (k + 1) f fd ps sp := by
  obtain ⟨oc, od, kV, dc, pm, an, cdv, ct, osl, rfl, lk, hcd⟩ := F.ex
  have hcode : cdv = .ref c := hcode
  subst hcode
  refine ⟨ln, fun A ou s H ar us xs Q E hq hr e0 hbi r hsp => ?_⟩
  have stays : ∀ b o, base.get? b = some o → s.heap.get? b = some o := fun b o e => (e0.bs b o e).1
  have inK : K.In s.heap := e0.mod.kin.keeps stays
  have kinds : ∀ y ∈ ps.zip us, (defScope st).names.lookup y.1 = some .local ∨ ((defScope st).names.lookup y.1 = some .cell ∧ ((cellsFrom (s.heap.objs.size + 1) (defScope st).names []).lookup y.1).isSome = true) := by
    rintro ⟨n, v⟩ hy
    exact (S.par n (List.of_mem_zip hy).1).imp id fun z => ⟨z, PySem.W.cellsFrom_some _ _ _ (.inl z)⟩
  refine codeAny_call_function hr.depth (inK _ _ lk) rfl S.co S.gen rfl (PySem.W.codeRec_of inK hcd) (hbi _ _ _ _ (wpAny_newFunctionEnv_cells S.kind kinds fun env he s1 nw => ?_))
  subst he
  refine ⟨(e0.mod.nolimit.keeps stays).keeps nw.toInCall.keep, codeAny_func ?_⟩
  obtain ⟨t, ht, w0⟩ := hb A ou s H xs Q E hq (hr.deeper _) hsp
  refine wpAny_mono (ht.run [] s1 (L2.start N xs) H _ (inv_start S hr.hd e0 (ln _ _ _ _ hsp) r nw) w0) (fun fl s2 z => ?_) fun _ _ z => z
  cases fl with
  | ret u => obtain ⟨v, σ2, H2, J, rv, q⟩ := z; exact ⟨v, H2, J.os, J.bare, J.base, J.hok, rv, q⟩
  | next => obtain ⟨σ2, H2, J, q⟩ := z; exact ⟨V.non, H2, J.os, J.bare, J.base, J.hok, rfl, q⟩
  | brk => obtain ⟨_, _, _, q⟩ := z; exact q.elim
  | cont => obtain ⟨_, _, _, q⟩ := z; exact q.elim
/-- its body, the code object known -/
def BdC (P : Program) (w : World) (K : PySem.W.Frag) (mg : Str → Option Value) (base : Heap) (T : Ct) (k : Nat) (N : List Str) (q : Str) (st : Stmt) (s : FS) : Prop :=
  ∀ (f c Pt : Addr) (A : Around) (outer : List Env) (s0 : Shared) (H : Hp) (E : XK) (B : Hp × Hp), LamX.TabB base mg c Pt → Pt ∈ T.tb → Room k (A.deeper (PyProof.Rows.envOfC q (defScope st) s0.heap.objs.size f (.ref c))) →
      Cv (cxOf (L2.CX P w) P w K mg base N q (defScope st) f (.ref c) A outer s0 H E) T E B →
      PassesOwn (model P w) (A.deeper (PyProof.Rows.envOfC q (defScope st) s0.heap.objs.size f (.ref c))) (PyProof.Rows.envOfC q (defScope st) s0.heap.objs.size f (.ref c)) (cxOf (L2.CX P w) P w K mg base N q (defScope st) f (.ref c) A outer s0 H E).xe →
      Takes (cxOf (L2.CX P w) P w K mg base N q (defScope st) f (.ref c) A outer s0 H E) (fun cls d _ H => E cls d H) →
      VSs (cxOf (L2.CX P w) P w K mg base N q (defScope st) f (.ref c) A outer s0 H E) T E B (defBody st) s
theorem gd_mkT {x q : Str} {st : Stmt} {f c Pt : Addr} {fd : FuncData} {N ps : List Str} {k : Nat} {s : FS} (F : Fun K x q st f fd) (hcode : fd.code = .ref c) (TB : LamX.TabB base mg c Pt) (hP : Pt ∈ T.tb) (S : FnScope N ps (defScope st)) (hb : BdC P w K mg base T k N q st s) :
    FnGd P w K mg base (L2.CX P w) (k + 1) f fd ps (spV T ps.length (runB N.length s)) := by
  refine gd_mkC F hcode S (fun vs H Q E h => ?_) (fun A outer s0 H vs Q E hq hr h => ?_)
  · obtain ⟨G, as, gh, _, _, r, hl, _⟩ := h
    rw [vrp_len r, hl]
  obtain ⟨G, as, gh, nb, mo, r, hl, o⟩ := h
  have tk : Takes (cxOf (L2.CX P w) P w K mg base N q (defScope st) f (.ref c) A outer s0 H E) (fun cls d _ H => E cls d H) := takes_of rfl rfl rfl rfl
  refine ⟨_, hb f c Pt A outer s0 H E (G, H) TB hP hr ⟨rfl, S.nd, passes_call tk fun _ _ _ _ z => z, ?_, hq⟩ (passes_of rfl) tk, G, _, sim_start N.length gh nb mo r N rfl, ?_⟩
  · have := hr.un
    show (A.deeper (PyProof.Rows.envOfC q (defScope st) s0.heap.objs.size f (.ref c))).units + 150 < cLine
    omega
  · unfold runB at o
    revert o
    cases s (as.map some ++ List.replicate (N.length - as.length) none) with
    | nx e => exact fun o G' σ' H' sg S' => o .non G' H' S'.st .non
    | rt v => exact fun o => o
    | err c => exact fun o => o
    | stuck => exact fun o => o
theorem fn_mkT {x q : Str} {st : Stmt} {N ps : List Str} {k : Nat} {s : FS} (d : Df K mg x q st ps) (mt : MkT K mg base T x) (S : FnScope N ps (defScope st)) (hb : BdC P w K mg base T k N q st s) : Fn P w K mg base T (k + 1) x ps.length (runB N.length s) := by
  obtain ⟨f, fd, F, hm, hbi⟩ := d
  obtain ⟨c, Pt, TB, hP, hc⟩ := mt
  obtain ⟨oc, od, kV, dc, pm, an, cdv, ct, osl, e, lk, hcd⟩ := F.ex
  exact ⟨f, fd, ps, gd_mkT F (hc f _ fd hm lk rfl) TB hP S hb, hm, F.kp, hbi⟩
end
section
variable {P : Program} {w : World} {K : PySem.W.Frag} {mg : Str → Option Value} {base : Heap} {T : Ct}
theorem fn_no {x q : Str} {st : Stmt} {ps : List Str} {n k : Nat} {m : List SV → R} (d : Df K mg x q st ps) (h : m = fun _ => .stuck) : Fn P w K mg base T k x n m := by
  obtain ⟨f, fd, F, hm, hbi⟩ := d
  subst h
  have no : ∀ vs H Q E, ¬ spV T n (fun _ => .stuck) vs H Q E := fun vs H Q E ⟨_, _, _, _, _, _, _, o⟩ => o
  exact ⟨f, fd, ps, ⟨fun vs H Q E h => absurd h (no vs H Q E), fun A outer s H args us vs Q E _ _ _ _ _ h => absurd h (no vs H Q E)⟩, hm, F.kp, hbi⟩
end
theorem Oc.cal {K : PySem.W.Frag} {mg : Str → Option Value} {T : Ct} {x : Str} {c : Nat} (h : Oc K mg T x c) (f : Nat → Addr) (l : List Addr) (G : Hp) : Oc K mg { T with fv := f, tb := l, gc := G } x c := by
  cases h; constructor <;> assumption
theorem OkI.cal {K : PySem.W.Frag} {mg : Str → Option Value} {T : Ct} {x : Str} {c : Nat → Bool} (h : OkI K mg T x c) (f : Nat → Addr) (l : List Addr) (G : Hp) : OkI K mg { T with fv := f, tb := l, gc := G } x c := by
  cases h; constructor <;> assumption
/-! ### the end of a law with such tables -/
section
open PySem.Spec PyProof.Rows
variable {P : Program} {w : World} {K : PySem.W.Frag} {mg mb : Str → Option Value} {k : Nat} {fa a : Addr} {fd : FuncData} {x : Str} {sp : Sp} {s1 : Shared} {vs : List Value} {ns : List Int}
/-- what the top tells of the code objects and their tables -/
structure TabF (K : PySem.W.Frag) (h : Heap) (cs : List (Addr × Addr)) : Prop where
  em : ∀ p ∈ cs, h.get? p.2 = some { cls := .none, data := .fields #[] }
  nk : ∀ p ∈ cs, K.lookup p.2 = none
  cd : ∀ p ∈ cs, PySem.W.CodeHd h p.1 p.2
/-- a maker's code object and table, by the top -/
structure TabX (K : PySem.W.Frag) (mg : Str → Option Value) (h : Heap) (x : Str) (c Pt : Addr) : Prop where
  em : h.get? Pt = some { cls := .none, data := .fields #[] }
  nk : K.lookup Pt = none
  cd : PySem.W.CodeHd h c Pt
  co : ∀ f o fd, mg x = some (.ref f) → K.lookup f = some o → o.data = .func fd → fd.code = .ref c
theorem tabX_mk {mg : Str → Option Value} {h : Heap} {K : PySem.W.Frag} {x q : Str} {st : Stmt} {f c Pt : Addr} {oc : Value} {od an od2 : Option Addr} {osl sl2 : Array (Option Value)} {kV doc pm ct tc : Value} {vs : Array Value} (KX : K.In h) (G : h.Ns mainGlobals mg)
    (a : PySem.W.nsIn K mainGlobals x = some (some (.ref f))) (l : K.lookup f = some ⟨oc, od, .func (PySem.W.fnOf q q (defArgs st) (defBody st) (defScope st) .none kV doc pm an (.ref c) ct), osl⟩) (v : K.lookup c = some ⟨tc, od2, .fields vs, sl2⟩) (v11 : vs[11]? = some (.ref Pt)) (cd : PySem.W.codeHdIn K c Pt = true) (n : K.lookup Pt = none) (em : h.get? Pt = some (PySem.W.tabObj #[])) : TabX K mg h x c Pt :=
  ⟨em, n, PySem.W.codeHd_of_K KX cd, fun f2 o fd hm lk hd => by
    have e := PySem.W.mg_of KX G a
    rw [hm] at e
    cases e
    rw [l] at lk
    cases lk
    cases hd
    rfl⟩
theorem TabF.nil {h : Heap} : TabF K h [] := ⟨(fun _ m => nomatch m), (fun _ m => nomatch m), (fun _ m => nomatch m)⟩
theorem TabF.cons {h : Heap} {c Pt : Addr} {cs : List (Addr × Addr)} {x : Str} (X : TabX K mg h x c Pt) (F : TabF K h cs) : TabF K h ((c, Pt) :: cs) := ⟨fun p m => (List.mem_cons.mp m).elim (fun z => by rw [z]; exact X.em) (F.em p), fun p m => (List.mem_cons.mp m).elim (fun z => by rw [z]; exact X.nk) (F.nk p), fun p m => (List.mem_cons.mp m).elim (fun z => by rw [z]; exact X.cd) (F.cd p)⟩
theorem due_T {cs : List (Addr × Addr)} (inK : K.In s1.heap) (hns : s1.heap.Ns mainGlobals mg) (hb : s1.heap.Ns builtinsNs mb) (hbb : ∀ x : Str, x ≠ "__name__" → mb x = bootBuiltins x) (lim : s1.heap.NoLimit) (hg : s1.gens = #[]) (TF : TabF K s1.heap cs)
    (bm : ∃ (m : Addr) (ob : Obj), mg "__builtins__" = some (.ref m) ∧ m ≠ builtinsNs ∧ s1.heap.get? m = some ob ∧ ob.cls = .type "module" ∧ ob.dict = some builtinsNs ∧ ob.data = .plain)
    (ha : s1.heap.get? a = some { cls := .type "list", data := .seq vs.toArray }) (hi : IntsAre vs ns) (hl : ns.length ≤ sizeLine) (hr : Room k callerA) (F : ∀ bs : Heap, K.In bs → (∀ p ∈ cs, LamX.TabB bs mg p.1 p.2) → FnGd P w K mg bs (L2.CX P w) k fa fd [x] sp) (hbi : ∀ (s : Shared) (u : Value), BindsTo s fd ⟨[u], []⟩ [(x, u)])
    (hs : ∀ H : Hp, (∀ p ∈ cs, H p.2 = some (.tbl #[])) → SqL K H a (ns.map V.int) → sp [.ref a] H (fun v _ => v = .bl true) fun _ _ _ => False) : Due P w fa a s1 := by
  let oa : Obj := { cls := .type "list", data := .seq vs.toArray }
  have rv := vals_ints hi
  have ln := hi.length
  let tb := cs.map (·.2)
  have inT : ∀ p ∈ cs, p.2 ∈ tb := fun p m => List.mem_map.mpr ⟨p, m, rfl⟩
  have atT : ∀ b ∈ tb, s1.heap.get? b = some { cls := .none, data := .fields #[] } := fun b m => by
    obtain ⟨p, hp, rfl⟩ := List.mem_map.mp m
    exact TF.em p hp
  have noT : ∀ {b : Addr} {o : Obj}, s1.heap.get? b = some o → o.data ≠ .fields #[] → b ∉ tb := fun {b o} e n m => by
    rw [atT b m] at e; cases e; exact n rfl
  have aT : a ∉ tb := noT ha fun z => by cases z
  -- the tracked: the script, if it stands apart, and the tables
  let H : Hp := fun b => if b ∈ tb then some (.tbl #[]) else if b = a ∧ K.lookup a = none then some (.frz oa (.lst (ns.map V.int))) else none
  have h1 : ∀ {b : Addr}, b ∈ tb → H b = some (.tbl #[]) := fun m => if_pos m
  have h2 : K.lookup a = none → H a = some (.frz oa (.lst (ns.map V.int))) := fun q => (if_neg aT).trans (if_pos ⟨rfl, q⟩)
  have h3 : ∀ {b : Addr}, b ∉ tb → ¬ (b = a ∧ K.lookup a = none) → H b = none := fun m n => (if_neg m).trans (if_neg n)
  have free : ∀ {b : Addr} {o : Obj}, s1.heap.get? b = some o → o.data ≠ .fields #[] → (∀ us n, o.data ≠ .seq us n) → H b = none := fun {b o} e n m => h3 (noT e n) fun z => by
    rw [z.1, ha] at e; cases e; exact m _ _ rfl
  have ok : HOk P w H s1.heap := fun b u e => by
    by_cases m : b ∈ tb
    · rw [h1 m] at e; cases e; exact atT b m
    · by_cases z : b = a ∧ K.lookup a = none
      · obtain ⟨rfl, q⟩ := z
        rw [h2 q] at e; cases e
        exact ⟨ha, by rw [List.length_map]; exact hl, vs, _, rv, ha⟩
      · rw [h3 m z] at e; cases e
  have sq : SqL K H a (ns.map V.int) := by
    cases q : K.lookup a with
    | none => exact .inl (.inr ⟨oa, h2 q⟩)
    | some o =>
      have e := ha.symm.trans (inK a o q)
      cases e
      exact .inr ⟨_, vs.toArray, _, q, rfl, rfl, rfl, by rw [List.size_toArray, ln]; exact hl, by simpa using rv⟩
  have nsB : ∀ {b : Addr} {m : Str → Option Value}, s1.heap.Ns b m → (hidT s1.heap H).Ns b m := by
    rintro b m ⟨o, es, ep, e, d, r⟩
    exact ⟨o, es, ep, hidT_get e (free e (fun z => by rw [d] at z; cases z) fun _ _ z => by rw [d] at z; cases z), d, r⟩
  have inB : K.In (hidT s1.heap H) := fun b o e => by
    refine hidT_get (inK b o e) (h3 (fun m => ?_) fun z => ?_)
    · obtain ⟨p, hp, rfl⟩ := List.mem_map.mp m
      rw [TF.nk p hp] at e; cases e
    · rw [z.1, z.2] at e; cases e
  obtain ⟨mc, l1, l2⟩ := lim
  have md : Mod K mg (hidT s1.heap H) := ⟨inB, nsB hns, ⟨mb, nsB hb, hbb⟩, mc, nsB l1, l2⟩
  have tB : ∀ p ∈ cs, LamX.TabB (hidT s1.heap H) mg p.1 p.2 := fun p hp => by
    have ep := TF.em p hp
    have ng : mainGlobals ≠ p.2 := fun z => by
      obtain ⟨o, es, ep', e, d, _⟩ := hns
      rw [z, ep] at e; cases e; cases d
    refine ⟨?_, ?_, ng⟩
    · obtain ⟨o, us, f1, f2, f3, f4, f5, f6, f7, e1, r1, r2, r3, r⟩ := TF.cd p hp
      refine ⟨o, us, f1, f2, f3, f4, f5, f6, f7, hidT_get e1 (free e1 (fun z => ?_) fun _ _ z => by rw [r2] at z; cases z), r1, r2, r3, r⟩
      rw [r2] at z
      cases z
      simp at r3
    · obtain ⟨m, ob, b1, b2, b3, b4, b5, b6⟩ := bm
      refine ⟨m, ob, b1, b2, fun z => ?_, fun z => ?_, hidT_get b3 (free b3 (fun z => by rw [b6] at z; cases z) fun _ _ z => by rw [b6] at z; cases z), b4, b5, b6⟩
      · obtain ⟨o, es, ep', e, d, _⟩ := hns
        rw [z, e] at b3; cases b3
        rw [d] at b6; cases b6
      · rw [z, ep] at b3; cases b3; cases b6
  have e0 : Env0 P w K mg (hidT s1.heap H) callerA [] s1 H := ⟨rfl, md, fun _ _ e => of_hidT e, Nat.le_of_eq (hidT_size _ _), trivial, fun b z => absurd (show b ∈ ([] : List Addr) from z) List.not_mem_nil, ok, .of_eq hg⟩
  refine codeAny_mono ((F _ inB tB).go callerA [] s1 H ⟨[.ref a], []⟩ [.ref a] [.ref a] _ _ rfl hr e0 (hbi s1 (.ref a)) (.cons rfl .nil) (hs H (fun p hp => h1 (inT p hp)) sq)) fun r s2 z => ?_
  rcases r with r | r
  · obtain ⟨_, _, _, _, _, _, _, _, _, _, _, _, z⟩ := z
    exact z.elim
  · cases r with
    | next => exact z.elim
    | brk => exact z.elim
    | cont => exact z.elim
    | ret u =>
      obtain ⟨v, H2, os, bare, un, ok2, rv2, rfl⟩ := z
      obtain rfl : u = Value.bool true := rv2
      have kept : ∀ b o, b ∉ tb → s1.heap.get? b = some o → s2.heap.get? b = some o := fun b o m e => by
        by_cases y : b = a ∧ K.lookup a = none
        · obtain ⟨rfl, q⟩ := y
          have g2 := (ok2 b _ (un.frzs b _ _ (h2 q))).1
          rw [ha] at e; cases e
          exact g2
        · exact un.keep b o e (h3 m y) (fun z => absurd (show b ∈ ([] : List Addr) from z) List.not_mem_nil) (by simp)
      have grown : ∀ b ∈ tb, ∃ more : Array Value, s2.heap.get? b = some { cls := .none, data := .fields (#[] ++ more) } := fun b m => by
        obtain ⟨more, e⟩ := un.tbls b _ (h1 m)
        exact ⟨more, ok2 b _ e⟩
      refine ⟨rfl, ⟨fun b o e => ?_, fun b o e => ?_⟩, os, bare⟩
      · by_cases m : b ∈ tb
        · obtain ⟨more, e2⟩ := grown b m
          obtain ⟨p, hp, rfl⟩ := List.mem_map.mp m
          have ep := TF.em p hp
          have e' := e
          rw [ep] at e'
          cases e'
          exact .inr (.inl ⟨((TF.cd p hp).tab ep).isCodeTable, rfl, #[], more, rfl, e2⟩)
        · exact .inl (kept b o m e)
      · by_cases m : b ∈ tb
        · obtain ⟨more, e2⟩ := grown b m
          exact ⟨_, e2⟩
        · exact ⟨o, kept b o m e⟩
end
def spLawT (tb : List Addr) : Sp := fun vs H Q _ => ∃ (a : Addr) (ns : List Int), vs = [.ref a] ∧ ns.length ≤ 63 ∧ (∀ z ∈ ns, Builtin.Int.intBits z ≤ 1048576) ∧ SqL [] H a (ns.map V.int) ∧ (∀ b ∈ tb, H b = some (.tbl #[])) ∧ ∀ H', Q (.bl true) H'
theorem law_impT {T : Ct} (h1 : T.me = none) (h2 : T.gc = fun _ => none) {m : List SV → R} (h : ∀ ns : List Int, ns.length ≤ 63 → (∀ z ∈ ns, Builtin.Int.intBits z ≤ 1048576) → m [.sh (.list (ns.map .int))] = .val (.sh (.bool true))) : ∀ vs H Q E, spLawT T.tb vs H Q E → spV T 1 m vs H Q E := by
  rintro vs H Q E ⟨a, ns, rfl, n1, n2, s, tb, q⟩
  have nT : NoMe { T with tb := [] } := ⟨h1, rfl, h2⟩
  obtain ⟨G, as, gh, nm, mo, rp, hl, o⟩ := law_imp nT h [.ref a] H Q E ⟨a, ns, rfl, n1, n2, s, q⟩
  have rp2 : VRpAll T G [.ref a] as := by
    cases rp with
    | cons r1 rp =>
      cases rp
      refine .cons ?_ .nil
      rename_i a1
      cases a1 with
      | sh d => exact r1
      | ow _ => exact r1
      | rg _ => exact r1
      | ob c fs => exact r1
  refine ⟨G, as, gh, nm, ⟨⟨mo.1.1, fun P hP => ⟨#[], tb P hP, trivial, fun pos cv e => ?_⟩⟩, mo.2⟩, rp2, hl, ?_⟩
  · have e : codeAmong pos [] = some cv := e
    simp [codeAmong] at e
  · revert o
    cases m as with
    | err c => exact fun o => o
    | stuck => exact fun o => o
    | val v =>
      cases v with
      | sh d => exact fun o => o
      | ow d => exact fun o => o
      | ob c fs => exact fun o => o
      | rg r => exact fun o v S G' H' st nd nw r => o v S G' H' st nd nw (RRp.mono (T := T) (T' := { T with tb := [] }) (Same.refl _) rfl rfl _ _ _ r fun _ _ => rfl)
theorem walkT {l : PySem.W.OpenLaw} {q : Program} {loose : List Str} {XP : (Str → Option Value) → Heap → Prop} {YP : World → Heap → Prop} {d : DefRec} {K : Params → PySem.W.Frag} {k : Nat} (hr : Room k callerA) (hn : l.most = some 63) (hdf : d.params.defaults = [])
    (hY : ∀ (w : World) (h : Heap), YP w h → (K w.params).In h) (hL : ∀ w : World, noLst (K w.params) = true)
    (F : ∀ (w : World) (s0 : Shared) (mg mb : Str → Option Value) (fa : Addr) (h : Heap), (K w.params).In h → h.Ns mainGlobals mg → mg d.name = some (.ref fa) → PySem.W.Ground q loose [] XP w s0 mg mb h → YP w h →
      ∃ (fd : FuncData) (cs : List (Addr × Addr)), TabF (K w.params) h cs ∧ (∀ (s : Shared) (u : Value), BindsTo s fd ⟨[u], []⟩ [("_law_script", u)]) ∧ ∀ base : Heap, (K w.params).In base → (∀ p ∈ cs, LamX.TabB base mg p.1 p.2) → FnGd l.prog w (K w.params) mg base (L2.CX l.prog w) k fa fd ["_law_script"] (spLawT (cs.map (·.2)))) :
    PySem.W.WalkO q loose XP YP l.row.toRowW d [] (fun f vs => PySem.call f vs) := by
  refine Att.attach_callB hn hdf fun w s0 s1 mg mb fa o pm cd doc a vs ns G Y ho hd hcd hmg hobj hints hlen hbits hg => ?_
  obtain ⟨fd, cs, TF, hb, hF⟩ := F w s0 mg mb fa _ (hY w _ Y) G.T.g hmg G Y
  exact due_T (hY w _ Y) G.T.g G.T.b G.T.builtins G.T.nolimit hg TF G.T.bmain hobj hints (Nat.le_trans hlen (by decide)) hr hF hb fun H hT hS => ⟨a, ns, rfl, hlen, hbits, noLst_sq (hL w) hS, fun b m => by
    obtain ⟨p, hp, rfl⟩ := List.mem_map.mp m
    exact hT p hp, fun _ => rfl⟩
end VL
namespace HM
open PySem L2 VL
def b_is_key : FS := sRet (vAnd (op1 (fun d => rb (isInt d)) (vVar 0)) (vNot (op1 (fun d => rb (isBool d)) (vVar 0))))
def m_is_key : Nat → List SV → R
  | 0 => fun _ => .stuck
  | k + 1 => runB 1 (b_is_key)
def p_is_form_1 (c_is_key : List SV → R) : FE := vBor 1 (op2 fNe (vVar 1) (vLst []))
def p_is_form_2 (c_is_key : List SV → R) : FS := sSeq (sPop 3 1) (sSeq (sIf (vOr (vNot (op1 (fun d => rb (isTup d)) (vVar 3))) (op2 fNin (cal1 fLen (vVar 3)) (vTup [vC (.int 0), vC (.int 3)]))) (sRet (vC (.bool false))) (sNil)) (sIf (op2 fEq (cal1 fLen (vVar 3)) (vC (.int 3))) (sSeq (sAdd 2 (vC (.int 1))) (sSeq (sIf (vOr (op2 fGt (vVar 2) (vC (.int 40))) (vNot (calF 1 c_is_key [op2 fIx (vVar 3) (vC (.int 1))]))) (sRet (vC (.bool false))) (sNil)) (sExt 1 (vLst [op2 fIx (vVar 3) (vC (.int 0)), op2 fIx (vVar 3) (vC (.int 2))])))) (sNil)))
def b_is_form (c_is_key : List SV → R) : FS := sSeq (sPar2 1 2 true false (vLst [vVar 0]) (vC (.int 0))) (sSeq (sWhile WF (p_is_form_1 c_is_key) (p_is_form_2 c_is_key)) (sRet (vC (.bool true))))
def m_is_form : Nat → List SV → R
  | 0 => fun _ => .stuck
  | k + 1 => runB 4 (b_is_form (m_is_key k))
def p_is_ordered_1 (c_is_ordered : List SV → R) : FS := sIf (vAnd (op2 fNe (vVar 1) (vTup [])) (op2 fLt (op2 fIx (vVar 1) (vC (.int 1))) (op2 fIx (vVar 0) (vC (.int 1))))) (sRet (vC (.bool false))) (sNil)
def b_is_ordered (c_is_ordered : List SV → R) : FS := sSeq (sIf (op2 fEq (vVar 0) (vTup [])) (sRet (vC (.bool true))) (sNil)) (sSeq (sFor (tgN 1) (itD iT (vTup [op2 fIx (vVar 0) (vC (.int 0)), op2 fIx (vVar 0) (vC (.int 2))])) (p_is_ordered_1 c_is_ordered)) (sRet (vAnd (calF 1 c_is_ordered [op2 fIx (vVar 0) (vC (.int 0))]) (calF 1 c_is_ordered [op2 fIx (vVar 0) (vC (.int 2))]))))
def m_is_ordered : Nat → List SV → R
  | 0 => fun _ => .stuck
  | k + 1 => runB 2 (b_is_ordered (m_is_ordered k))
def b_check_heap (c_is_form : List SV → R) (c_is_ordered : List SV → R) : FS := sIf (vOr (vNot (calF 1 c_is_form [vVar 0])) (vNot (calF 1 c_is_ordered [vVar 0]))) (sRaise "BadHeap") (sNil)
def m_check_heap : Nat → List SV → R
  | 0 => fun _ => .stuck
  | k + 1 => runB 1 (b_check_heap (m_is_form k) (m_is_ordered k))
def b_row_from (c_row_from : List SV → R) : FS := sRet (vIf (op2 fEq (vVar 0) (vTup [])) (vLst []) (op2 fAdd (op2 fAdd (calF 1 c_row_from [op2 fIx (vVar 0) (vC (.int 0))]) (vLst [op2 fIx (vVar 0) (vC (.int 1))])) (calF 1 c_row_from [op2 fIx (vVar 0) (vC (.int 2))])))
def m_row_from : Nat → List SV → R
  | 0 => fun _ => .stuck
  | k + 1 => runB 1 (b_row_from (m_row_from k))
def b_keys_of (c_check_heap : List SV → R) (c_row_from : List SV → R) : FS := sSeq (sExpr (calF 1 c_check_heap [vVar 0])) (sRet (cal1 fSorted (calF 1 c_row_from [vVar 0])))
def m_keys_of : Nat → List SV → R
  | 0 => fun _ => .stuck
  | k + 1 => runB 1 (b_keys_of (m_check_heap k) (m_row_from k))
def b_order_of : FS := sRet (cal1 fLen (op2 fIx (vVar 0) (vC (.int 1))))
def m_order_of : Nat → List SV → R
  | 0 => fun _ => .stuck
  | k + 1 => runB 1 (b_order_of)
def p_is_tree_1 (c_is_key : List SV → R) (c_is_tree : List SV → R) : FS := sIf (vOr (vNot (calF 2 c_is_tree [vVar 3, op2 fSub (op2 fSub (vVar 1) (vC (.int 1))) (vVar 2)])) (op2 fLt (op2 fIx (vVar 3) (vC (.int 0))) (op2 fIx (vVar 0) (vC (.int 0))))) (sRet (vC (.bool false))) (sNil)
def b_is_tree (c_is_key : List SV → R) (c_is_tree : List SV → R) : FS := sSeq (sIf (vOr (vNot (op1 (fun d => rb (isTup d)) (vVar 0))) (vOr (op2 fNe (cal1 fLen (vVar 0)) (vC (.int 2))) (vOr (vNot (calF 1 c_is_key [op2 fIx (vVar 0) (vC (.int 0))])) (vNot (op1 (fun d => rb (isList d)) (op2 fIx (vVar 0) (vC (.int 1)))))))) (sRet (vC (.bool false))) (sNil)) (sSeq (sIf (op2 fNe (cal1 fLen (op2 fIx (vVar 0) (vC (.int 1)))) (vVar 1)) (sRet (vC (.bool false))) (sNil)) (sSeq (sFor (tg2 2 3) (itA iE [op2 fIx (vVar 0) (vC (.int 1))]) (p_is_tree_1 c_is_key c_is_tree)) (sRet (vC (.bool true)))))
def m_is_tree : Nat → List SV → R
  | 0 => fun _ => .stuck
  | k + 1 => runB 4 (b_is_tree (m_is_key k) (m_is_tree k))
def p_is_pile_1 (c_order_of : List SV → R) (c_is_tree : List SV → R) : FS := sSeq (sIf (vOr (vNot (op1 (fun d => rb (isTup d)) (vVar 3))) (vOr (op2 fNe (cal1 fLen (vVar 3)) (vC (.int 2))) (vNot (op1 (fun d => rb (isList d)) (op2 fIx (vVar 3) (vC (.int 1))))))) (sRet (vC (.bool false))) (sNil)) (sSeq (sSet 4 (calF 1 c_order_of [vVar 3])) (sSeq (sIf (vOr (op2 fLe (vVar 4) (vVar 1)) (vOr (op2 fGt (vVar 4) (vC (.int 5))) (vNot (calF 2 c_is_tree [vVar 3, vVar 4])))) (sRet (vC (.bool false))) (sNil)) (sPar2 1 2 false false (vVar 4) (op2 fAdd (vVar 2) (op2 fShl (vC (.int 1)) (vVar 4))))))
def b_is_pile (c_order_of : List SV → R) (c_is_tree : List SV → R) : FS := sSeq (sIf (vNot (op1 (fun d => rb (isList d)) (vVar 0))) (sRet (vC (.bool false))) (sNil)) (sSeq (sUnp (tg2 1 2) (vTup [op1 fNeg (vC (.int 1)), vC (.int 0)])) (sSeq (sFor (tgN 3) (itD iL (vVar 0)) (p_is_pile_1 c_order_of c_is_tree)) (sRet (op2 fLe (vVar 2) (vC (.int 40))))))
def m_is_pile : Nat → List SV → R
  | 0 => fun _ => .stuck
  | k + 1 => runB 5 (b_is_pile (m_order_of k) (m_is_tree k))
def b_check_pile (c_is_pile : List SV → R) : FS := sIf (vNot (calF 1 c_is_pile [vVar 0])) (sRaise "BadPile") (sNil)
def m_check_pile : Nat → List SV → R
  | 0 => fun _ => .stuck
  | k + 1 => runB 1 (b_check_pile (m_is_pile k))
def p_keys_in_1 (c_keys_in : List SV → R) : FS := sExt 1 (calF 1 c_keys_in [vVar 2])
def b_keys_in (c_keys_in : List SV → R) : FS := sSeq (sOwn 1 (vLst [op2 fIx (vVar 0) (vC (.int 0))])) (sSeq (sFor (tgN 2) (itD iL (op2 fIx (vVar 0) (vC (.int 1)))) (p_keys_in_1 c_keys_in)) (sRetO 1))
def m_keys_in : Nat → List SV → R
  | 0 => fun _ => .stuck
  | k + 1 => runB 3 (b_keys_in (m_keys_in k))
def p_pile_keys_1 (c_check_pile : List SV → R) (c_keys_in : List SV → R) : FS := sExt 1 (calF 1 c_keys_in [vVar 2])
def b_pile_keys (c_check_pile : List SV → R) (c_keys_in : List SV → R) : FS := sSeq (sExpr (calF 1 c_check_pile [vVar 0])) (sSeq (sOwn 1 (vLst [])) (sSeq (sFor (tgN 2) (itD iL (vVar 0)) (p_pile_keys_1 c_check_pile c_keys_in)) (sFrz 1 (sRet (cal1 fSorted (vVar 1))))))
def m_pile_keys : Nat → List SV → R
  | 0 => fun _ => .stuck
  | k + 1 => runB 3 (b_pile_keys (m_check_pile k) (m_keys_in k))
def b_row_of (c_check_heap : List SV → R) (c_row_from : List SV → R) : FS := sSeq (sExpr (calF 1 c_check_heap [vVar 0])) (sRet (calF 1 c_row_from [vVar 0]))
def m_row_of : Nat → List SV → R
  | 0 => fun _ => .stuck
  | k + 1 => runB 1 (b_row_of (m_check_heap k) (m_row_from k))
def b_rank_of (c_rank_of : List SV → R) : FS := sRet (vIf (op2 fEq (vVar 0) (vTup [])) (vC (.int 0)) (op2 fAdd (vC (.int 1)) (cal2 fMin2 (calF 1 c_rank_of [op2 fIx (vVar 0) (vC (.int 0))]) (calF 1 c_rank_of [op2 fIx (vVar 0) (vC (.int 2))]))))
def m_rank_of : Nat → List SV → R
  | 0 => fun _ => .stuck
  | k + 1 => runB 1 (b_rank_of (m_rank_of k))
def p_knot_at_1 : FS := sSeq (sIf (vOr (op2 fEq (vVar 0) (vTup [])) (op2 fNin (vVar 2) (vTup [vC (.str "left"), vC (.str "right")]))) (sRet (vTup [])) (sNil)) (sSet 0 (vIf (op2 fEq (vVar 2) (vC (.str "left"))) (op2 fIx (vVar 0) (vC (.int 0))) (op2 fIx (vVar 0) (vC (.int 2)))))
def b_knot_at : FS := sSeq (sFor (tgN 2) (itD iL (vVar 1)) (p_knot_at_1)) (sRet (vVar 0))
def m_knot_at : Nat → List SV → R
  | 0 => fun _ => .stuck
  | k + 1 => runB 3 (b_knot_at)
def b_slants (c_rank_of : List SV → R) : FS := sRet (vAnd (op2 fNe (vVar 0) (vTup [])) (op2 fGt (calF 1 c_rank_of [op2 fIx (vVar 0) (vC (.int 2))]) (calF 1 c_rank_of [op2 fIx (vVar 0) (vC (.int 0))])))
def m_slants : Nat → List SV → R
  | 0 => fun _ => .stuck
  | k + 1 => runB 1 (b_slants (m_rank_of k))
def b_slanting (c_slants : List SV → R) (c_slanting : List SV → R) : FS := sSeq (sIf (op2 fEq (vVar 0) (vTup [])) (sRet (vLst [])) (sNil)) (sSeq (sSet 2 (vIf (calF 1 c_slants [vVar 0]) (vLst [vVar 1]) (vLst []))) (sRet (op2 fAdd (op2 fAdd (vVar 2) (calF 2 c_slanting [op2 fIx (vVar 0) (vC (.int 0)), op2 fAdd (vVar 1) (vLst [vC (.str "left")])])) (calF 2 c_slanting [op2 fIx (vVar 0) (vC (.int 2)), op2 fAdd (vVar 1) (vLst [vC (.str "right")])]))))
def m_slanting : Nat → List SV → R
  | 0 => fun _ => .stuck
  | k + 1 => runB 3 (b_slanting (m_slants k) (m_slanting k))
def b_exchanged (c_exchanged : List SV → R) : FS := sSeq (sIf (op2 fEq (vVar 0) (vTup [])) (sRet (vTup [])) (sNil)) (sSeq (sPar2 3 4 false false (calF 3 c_exchanged [op2 fIx (vVar 0) (vC (.int 0)), op2 fAdd (vVar 1) (vLst [vC (.str "left")]), vVar 2]) (calF 3 c_exchanged [op2 fIx (vVar 0) (vC (.int 2)), op2 fAdd (vVar 1) (vLst [vC (.str "right")]), vVar 2])) (sRet (vIf (op2 fIn (vVar 1) (vVar 2)) (vTup [vVar 4, op2 fIx (vVar 0) (vC (.int 1)), vVar 3]) (vTup [vVar 3, op2 fIx (vVar 0) (vC (.int 1)), vVar 4]))))
def m_exchanged : Nat → List SV → R
  | 0 => fun _ => .stuck
  | k + 1 => runB 5 (b_exchanged (m_exchanged k))
def b_Leans_shows (c_slanting : List SV → R) : FS := sRet (op2 fEq (calF 2 c_slanting [vVar 1, vLst []]) (vLst []))
def m_Leans_shows : Nat → List SV → R
  | 0 => fun _ => .stuck
  | k + 1 => runB 2 (b_Leans_shows (m_slanting k))
def b_Slants_shows (c_knot_at : List SV → R) (c_slants : List SV → R) : FS := sRet (calF 1 c_slants [calF 2 c_knot_at [vVar 1, vAt 1 0 (vVar 0)]])
def m_Slants_shows : Nat → List SV → R
  | 0 => fun _ => .stuck
  | k + 1 => runB 2 (b_Slants_shows (m_knot_at k) (m_slants k))
def b_Leaned_shows (c_knot_at : List SV → R) (c_slants : List SV → R) (c_exchanged : List SV → R) (c_slanting : List SV → R) : FS := sSeq (sIf (cal1 fAny (vLc [2, 3] (tg2 2 3) (itA iZ [vAt 2 1 (vVar 0), vSlL (vAt 2 1 (vVar 0)) (vC (.int 1))]) (vC (.bool true)) (op2 fGeD (vVar 2) (vVar 3)))) (sRet (vC (.bool false))) (sNil)) (sSeq (sIf (vNot (cal1 fAll (vLc [4] (tgN 4) (itD iL (vAt 2 1 (vVar 0))) (vC (.bool true)) (calF 1 c_slants [calF 2 c_knot_at [vVar 1, vVar 4]])))) (sRet (vC (.bool false))) (sNil)) (sRet (vAnd (op2 fEq (calF 3 c_exchanged [vVar 1, vLst [], vAt 2 1 (vVar 0)]) (vAt 2 0 (vVar 0))) (op2 fEq (calF 2 c_slanting [vAt 2 0 (vVar 0), vLst []]) (vLst [])))))
def m_Leaned_shows : Nat → List SV → R
  | 0 => fun _ => .stuck
  | k + 1 => runB 5 (b_Leaned_shows (m_knot_at k) (m_slants k) (m_exchanged k) (m_slanting k))
def b_rank (c_check_heap : List SV → R) (c_rank_of : List SV → R) : FS := sSeq (sExpr (calF 1 c_check_heap [vVar 0])) (sRet (calF 1 c_rank_of [vVar 0]))
def m_rank : Nat → List SV → R
  | 0 => fun _ => .stuck
  | k + 1 => runB 1 (b_rank (m_check_heap k) (m_rank_of k))
def m_Slants : Nat → List FE → FE := nwM 1 mk1
def b_judged (c_check_heap : List SV → R) (c_slanting : List SV → R) (c_Slants : List FE → FE) : FS := sSeq (sExpr (calF 1 c_check_heap [vVar 0])) (sSeq (sSet 1 (calF 2 c_slanting [vVar 0, vLst []])) (sRet (vIf (op2 fEq (vVar 1) (vLst [])) (vNew0 0) (c_Slants [op2 fIx (vVar 1) (vC (.int 0))]))))
def m_judged : Nat → List SV → R
  | 0 => fun _ => .stuck
  | k + 1 => runB 2 (b_judged (m_check_heap k) (m_slanting k) (m_Slants k))
def m_shows (k : Nat) : Nat → List SV → R := msO (m_Leans_shows k) (m_Slants_shows k) (m_Leaned_shows k)
def m_Leaned : Nat → List FE → FE := nwM 2 mk2
def b_size_of (c_size_of : List SV → R) : FS := sRet (vIf (op2 fEq (vVar 0) (vTup [])) (vC (.int 0)) (op2 fAdd (op2 fAdd (vC (.int 1)) (calF 1 c_size_of [op2 fIx (vVar 0) (vC (.int 0))])) (calF 1 c_size_of [op2 fIx (vVar 0) (vC (.int 2))])))
def m_size_of : Nat → List SV → R
  | 0 => fun _ => .stuck
  | k + 1 => runB 1 (b_size_of (m_size_of k))
def b_check_both (c_check_heap : List SV → R) (c_size_of : List SV → R) : FS := sSeq (sExpr (calF 1 c_check_heap [vVar 0])) (sSeq (sExpr (calF 1 c_check_heap [vVar 1])) (sIf (op2 fGt (op2 fAdd (calF 1 c_size_of [vVar 0]) (calF 1 c_size_of [vVar 1])) (vC (.int 40))) (sRaise "TooMany") (sNil)))
def m_check_both : Nat → List SV → R
  | 0 => fun _ => .stuck
  | k + 1 => runB 2 (b_check_both (m_check_heap k) (m_size_of k))
def b_check_leaning (c_slanting : List SV → R) : FS := sIf (op2 fNe (calF 2 c_slanting [vVar 0, vLst []]) (vLst [])) (sRaise "NotLeaning") (sNil)
def m_check_leaning : Nat → List SV → R
  | 0 => fun _ => .stuck
  | k + 1 => runB 1 (b_check_leaning (m_slanting k))
def b_leaning_knot (c_rank_of : List SV → R) : FS := sSeq (sIf (op2 fLt (calF 1 c_rank_of [vVar 0]) (calF 1 c_rank_of [vVar 2])) (sRet (vTup [vVar 2, vVar 1, vVar 0])) (sNil)) (sRet (vTup [vVar 0, vVar 1, vVar 2]))
def m_leaning_knot : Nat → List SV → R
  | 0 => fun _ => .stuck
  | k + 1 => runB 3 (b_leaning_knot (m_rank_of k))
def b_joinL (c_joinL : List SV → R) (c_leaning_knot : List SV → R) : FS := sSeq (sIf (vOr (op2 fEq (vVar 0) (vTup [])) (op2 fEq (vVar 1) (vTup []))) (sRet (vIf (op2 fEq (vVar 1) (vTup [])) (vVar 0) (vVar 1))) (sNil)) (sSeq (sIf (op2 fLt (op2 fIx (vVar 1) (vC (.int 1))) (op2 fIx (vVar 0) (vC (.int 1)))) (sPar2 0 1 false false (vVar 1) (vVar 0)) (sNil)) (sRet (calF 3 c_leaning_knot [op2 fIx (vVar 0) (vC (.int 0)), op2 fIx (vVar 0) (vC (.int 1)), calF 2 c_joinL [op2 fIx (vVar 0) (vC (.int 2)), vVar 1]])))
def m_joinL : Nat → List SV → R
  | 0 => fun _ => .stuck
  | k + 1 => runB 2 (b_joinL (m_joinL k) (m_leaning_knot k))
def b_lean_join (c_check_both : List SV → R) (c_check_leaning : List SV → R) (c_joinL : List SV → R) : FS := sSeq (sExpr (calF 2 c_check_both [vVar 0, vVar 1])) (sSeq (sExpr (calF 1 c_check_leaning [vVar 0])) (sSeq (sExpr (calF 1 c_check_leaning [vVar 1])) (sRet (calF 2 c_joinL [vVar 0, vVar 1]))))
def m_lean_join : Nat → List SV → R
  | 0 => fun _ => .stuck
  | k + 1 => runB 2 (b_lean_join (m_check_both k) (m_check_leaning k) (m_joinL k))
def b_lean_take (c_check_heap : List SV → R) (c_check_leaning : List SV → R) (c_joinL : List SV → R) : FS := sSeq (sExpr (calF 1 c_check_heap [vVar 0])) (sSeq (sExpr (calF 1 c_check_leaning [vVar 0])) (sSeq (sIf (op2 fEq (vVar 0) (vTup [])) (sRaise "Empty") (sNil)) (sRet (vTup [op2 fIx (vVar 0) (vC (.int 1)), calF 2 c_joinL [op2 fIx (vVar 0) (vC (.int 0)), op2 fIx (vVar 0) (vC (.int 2))]]))))
def m_lean_take : Nat → List SV → R
  | 0 => fun _ => .stuck
  | k + 1 => runB 1 (b_lean_take (m_check_heap k) (m_check_leaning k) (m_joinL k))
def b_check_keys (c_is_key : List SV → R) : FS := sIf (vOr (vNot (op1 (fun d => rb (isList d)) (vVar 0))) (vOr (op2 fGt (cal1 fLen (vVar 0)) (vC (.int 40))) (vNot (cal1 fAll (vLc [1] (tgN 1) (itD iL (vVar 0)) (vC (.bool true)) (calF 1 c_is_key [vVar 1])))))) (sRaise "BadKey") (sNil)
def m_check_keys : Nat → List SV → R
  | 0 => fun _ => .stuck
  | k + 1 => runB 2 (b_check_keys (m_is_key k))
def p_lean_of_1 (c_check_keys : List SV → R) (c_joinL : List SV → R) : FE := op2 fGt (cal1 fLen (vVar 1)) (vC (.int 1))
def p_lean_of_2 (c_check_keys : List SV → R) (c_joinL : List SV → R) : FS := sSet 1 (op2 fAdd (vSlL (vVar 1) (vC (.int 2))) (vLst [calF 2 c_joinL [op2 fIx (vVar 1) (vC (.int 0)), op2 fIx (vVar 1) (vC (.int 1))]]))
def b_lean_of (c_check_keys : List SV → R) (c_joinL : List SV → R) : FS := sSeq (sExpr (calF 1 c_check_keys [vVar 0])) (sSeq (sSet 1 (vLc [2] (tgN 2) (itD iL (vVar 0)) (vC (.bool true)) (vTup [vTup [], vVar 2, vTup []]))) (sSeq (sWhile WF (p_lean_of_1 c_check_keys c_joinL) (p_lean_of_2 c_check_keys c_joinL)) (sRet (vIf (op2 fNe (vVar 1) (vLst [])) (op2 fIx (vVar 1) (vC (.int 0))) (vTup [])))))
def m_lean_of : Nat → List SV → R
  | 0 => fun _ => .stuck
  | k + 1 => runB 3 (b_lean_of (m_check_keys k) (m_joinL k))
def b_leaned (c_check_heap : List SV → R) (c_slanting : List SV → R) (c_exchanged : List SV → R) (c_Leaned : List FE → FE) : FS := sSeq (sExpr (calF 1 c_check_heap [vVar 0])) (sSeq (sSet 1 (cal1 fSortedD (calF 2 c_slanting [vVar 0, vLst []]))) (sRet (c_Leaned [calF 3 c_exchanged [vVar 0, vLst [], vVar 1], vVar 1])))
def m_leaned : Nat → List SV → R
  | 0 => fun _ => .stuck
  | k + 1 => runB 2 (b_leaned (m_check_heap k) (m_slanting k) (m_exchanged k) (m_Leaned k))
def b_check_count (c_is_key : List SV → R) : FS := sIf (vOr (vNot (calF 1 c_is_key [vVar 0])) (vNot (vChn fLe fLe (vC (.int 0)) (vVar 0) (vC (.int 40))))) (sRaise "BadCount") (sNil)
def m_check_count : Nat → List SV → R
  | 0 => fun _ => .stuck
  | k + 1 => runB 1 (b_check_count (m_is_key k))
def b_many_of (c_parted : List SV → R) : FS := sSeq (sIf (vOr (op2 fEq (vVar 0) (vC (.int 0))) (op2 fEq (vVar 1) (vC (.int 0)))) (sRet (cal1 fInt (op2 fEq (vVar 0) (vVar 1)))) (sNil)) (sSeq (sIf (op2 fGt (op2 fSub (op2 fShl (vC (.int 1)) (vVar 1)) (vC (.int 1))) (vVar 0)) (sRet (vC (.int 0))) (sNil)) (sMemo 3 2 0 1 (cal1 fSum (vLc [4, 5] (tg2 4 5) (itD iL (calF 3 c_parted [vVar 0, vVar 1, vVar 2])) (vC (.bool true)) (vVar 5)))))
def p_parted_1 (c_many_of : List SV → R) (c_at_least : List SV → R) : FS := sSeq (sSet 5 (calF 3 c_many_of [op2 fSub (op2 fSub (vVar 0) (vC (.int 1))) (vVar 4), op2 fSub (vVar 1) (vC (.int 1)), vVar 2])) (sIf (op2 fGt (vVar 5) (vC (.int 0))) (sApp 3 (vTup [vVar 4, op2 fMul (vVar 5) (calF 3 c_at_least [vVar 4, op2 fSub (vVar 1) (vC (.int 1)), vVar 2])])) (sNil))
def b_parted (c_many_of : List SV → R) (c_at_least : List SV → R) : FS := sSeq (sOwn 3 (vLst [])) (sSeq (sFor (tgN 4) (itA iR1 [vVar 0]) (p_parted_1 c_many_of c_at_least)) (sRetO 3))
def p_at_least_1 (c_many_of : List SV → R) : FE := op2 fLe (op2 fSub (op2 fShl (vC (.int 1)) (vVar 4)) (vC (.int 1))) (vVar 0)
def p_at_least_2 (c_many_of : List SV → R) : FS := sSeq (sAdd 3 (calF 3 c_many_of [vVar 0, vVar 4, vVar 2])) (sAdd 4 (vC (.int 1)))
def b_at_least (c_many_of : List SV → R) : FS := sSeq (sPar2 3 4 false false (vC (.int 0)) (vVar 1)) (sSeq (sWhile WF (p_at_least_1 c_many_of) (p_at_least_2 c_many_of)) (sRet (vVar 3)))
mutual
def m_many_of : Nat → List SV → R
  | 0 => fun _ => .stuck
  | k + 1 => runB 6 (b_many_of (m_parted k))
def m_parted : Nat → List SV → R
  | 0 => fun _ => .stuck
  | k + 1 => runB 6 (b_parted (m_many_of k) (m_at_least k))
def m_at_least : Nat → List SV → R
  | 0 => fun _ => .stuck
  | k + 1 => runB 5 (b_at_least (m_many_of k))
end
def b_how_many (c_check_count : List SV → R) (c_at_least : List SV → R) : FS := sSeq (sExpr (calF 1 c_check_count [vVar 0])) (sRet (calM 3 c_at_least [vVar 0, vC (.int 0)]))
def m_how_many : Nat → List SV → R
  | 0 => fun _ => .stuck
  | k + 1 => runB 1 (b_how_many (m_check_count k) (m_at_least k))
def p_shape_from_1 (c_many_of : List SV → R) (c_parted : List SV → R) (c_shape_from : List SV → R) : FE := op2 fGe (vVar 2) (calF 3 c_many_of [vVar 0, vVar 1, vVar 3])
def p_shape_from_2 (c_many_of : List SV → R) (c_parted : List SV → R) (c_shape_from : List SV → R) : FS := sSeq (sSub 2 (calF 3 c_many_of [vVar 0, vVar 1, vVar 3])) (sAdd 1 (vC (.int 1)))
def p_shape_from_3 (c_many_of : List SV → R) (c_parted : List SV → R) (c_shape_from : List SV → R) : FS := sSeq (sIf (op2 fLt (vVar 2) (vVar 5)) (sSeq (sSet 6 (calF 3 c_many_of [op2 fSub (op2 fSub (vVar 0) (vC (.int 1))) (vVar 4), op2 fSub (vVar 1) (vC (.int 1)), vVar 3])) (sSeq (sSet 7 (calF 4 c_shape_from [vVar 4, op2 fSub (vVar 1) (vC (.int 1)), op2 fDivW (vVar 2) (vVar 6), vVar 3])) (sRet (vTup [vVar 7, vC (.int 0), calF 4 c_shape_from [op2 fSub (op2 fSub (vVar 0) (vC (.int 1))) (vVar 4), op2 fSub (vVar 1) (vC (.int 1)), op2 fMod (vVar 2) (vVar 6), vVar 3]])))) (sNil)) (sSub 2 (vVar 5))
def b_shape_from (c_many_of : List SV → R) (c_parted : List SV → R) (c_shape_from : List SV → R) : FS := sSeq (sWhile WF (p_shape_from_1 c_many_of c_parted c_shape_from) (p_shape_from_2 c_many_of c_parted c_shape_from)) (sSeq (sIf (op2 fEq (vVar 0) (vC (.int 0))) (sRet (vTup [])) (sNil)) (sSeq (sFor (tg2 4 5) (itD iL (calF 3 c_parted [vVar 0, vVar 1, vVar 3])) (p_shape_from_3 c_many_of c_parted c_shape_from)) (sRet (vTup []))))
def m_shape_from : Nat → List SV → R
  | 0 => fun _ => .stuck
  | k + 1 => runB 8 (b_shape_from (m_many_of k) (m_parted k) (m_shape_from k))
def b_shape_by (c_check_count : List SV → R) (c_is_key : List SV → R) (c_at_least : List SV → R) (c_shape_from : List SV → R) : FS := sSeq (sExpr (calF 1 c_check_count [vVar 0])) (sTab 2 (sSeq (sIf (vOr (vNot (calF 1 c_is_key [vVar 1])) (vNot (vChn fLe fLt (vC (.int 0)) (vVar 1) (calF 3 c_at_least [vVar 0, vC (.int 0), vVar 2])))) (sRaise "BadNumber") (sNil)) (sRet (calF 4 c_shape_from [vVar 0, vC (.int 0), vVar 1, vVar 2]))))
def m_shape_by : Nat → List SV → R
  | 0 => fun _ => .stuck
  | k + 1 => runB 3 (b_shape_by (m_check_count k) (m_is_key k) (m_at_least k) (m_shape_from k))
def p_number_in_1 (c_size_of : List SV → R) (c_rank_of : List SV → R) (c_many_of : List SV → R) (c_parted : List SV → R) (c_number_in : List SV → R) : FS := sIf (op2 fLt (vVar 6) (calF 1 c_size_of [op2 fIx (vVar 0) (vC (.int 0))])) (sAdd 5 (vVar 7)) (sNil)
def b_number_in (c_size_of : List SV → R) (c_rank_of : List SV → R) (c_many_of : List SV → R) (c_parted : List SV → R) (c_number_in : List SV → R) : FS := sSeq (sUnp (tg2 3 4) (vTup [calF 1 c_size_of [vVar 0], calF 1 c_rank_of [vVar 0]])) (sSeq (sSet 5 (cal1 fSum (vLc [9] (tgN 9) (itA iR2 [vVar 1, vVar 4]) (vC (.bool true)) (calF 3 c_many_of [vVar 3, vVar 9, vVar 2])))) (sSeq (sIf (op2 fEq (vVar 0) (vTup [])) (sRet (vVar 5)) (sNil)) (sSeq (sFor (tg2 6 7) (itD iL (calF 3 c_parted [vVar 3, vVar 4, vVar 2])) (p_number_in_1 c_size_of c_rank_of c_many_of c_parted c_number_in)) (sSeq (sSet 8 (calF 3 c_many_of [calF 1 c_size_of [op2 fIx (vVar 0) (vC (.int 2))], op2 fSub (vVar 4) (vC (.int 1)), vVar 2])) (sRet (op2 fAdd (op2 fAdd (vVar 5) (op2 fMul (calF 3 c_number_in [op2 fIx (vVar 0) (vC (.int 0)), op2 fSub (vVar 4) (vC (.int 1)), vVar 2]) (vVar 8))) (calF 3 c_number_in [op2 fIx (vVar 0) (vC (.int 2)), op2 fSub (vVar 4) (vC (.int 1)), vVar 2])))))))
def m_number_in : Nat → List SV → R
  | 0 => fun _ => .stuck
  | k + 1 => runB 10 (b_number_in (m_size_of k) (m_rank_of k) (m_many_of k) (m_parted k) (m_number_in k))
def b_number_of (c_check_heap : List SV → R) (c_check_leaning : List SV → R) (c_number_in : List SV → R) : FS := sSeq (sExpr (calF 1 c_check_heap [vVar 0])) (sSeq (sExpr (calF 1 c_check_leaning [vVar 0])) (sRet (calM 3 c_number_in [vVar 0, vC (.int 0)])))
def m_number_of : Nat → List SV → R
  | 0 => fun _ => .stuck
  | k + 1 => runB 1 (b_number_of (m_check_heap k) (m_check_leaning k) (m_number_in k))
def b_joinT (c_joinT : List SV → R) : FS := sSeq (sIf (vOr (op2 fEq (vVar 0) (vTup [])) (op2 fEq (vVar 1) (vTup []))) (sRet (vTup [vIf (op2 fEq (vVar 1) (vTup [])) (vVar 0) (vVar 1), vC (.int 0)])) (sNil)) (sSeq (sIf (op2 fLt (op2 fIx (vVar 1) (vC (.int 1))) (op2 fIx (vVar 0) (vC (.int 1)))) (sPar2 0 1 false false (vVar 1) (vVar 0)) (sNil)) (sSeq (sUnp (tg2 2 3) (calF 2 c_joinT [op2 fIx (vVar 0) (vC (.int 2)), vVar 1])) (sRet (vTup [vTup [vVar 2, op2 fIx (vVar 0) (vC (.int 1)), op2 fIx (vVar 0) (vC (.int 0))], op2 fAdd (vVar 3) (vC (.int 1))]))))
def m_joinT : Nat → List SV → R
  | 0 => fun _ => .stuck
  | k + 1 => runB 4 (b_joinT (m_joinT k))
def b_turn_join (c_check_both : List SV → R) (c_joinT : List SV → R) : FS := sSeq (sExpr (calF 2 c_check_both [vVar 0, vVar 1])) (sRet (calF 2 c_joinT [vVar 0, vVar 1]))
def m_turn_join : Nat → List SV → R
  | 0 => fun _ => .stuck
  | k + 1 => runB 2 (b_turn_join (m_check_both k) (m_joinT k))
def b_purse_of (c_size_of : List SV → R) (c_purse_of : List SV → R) : FS := sSeq (sIf (op2 fEq (vVar 0) (vTup [])) (sRet (vC (.int 0))) (sNil)) (sRet (op2 fAdd (op2 fAdd (cal1 fInt (op2 fGt (calF 1 c_size_of [op2 fIx (vVar 0) (vC (.int 2))]) (calF 1 c_size_of [op2 fIx (vVar 0) (vC (.int 0))]))) (calF 1 c_purse_of [op2 fIx (vVar 0) (vC (.int 0))])) (calF 1 c_purse_of [op2 fIx (vVar 0) (vC (.int 2))])))
def m_purse_of : Nat → List SV → R
  | 0 => fun _ => .stuck
  | k + 1 => runB 1 (b_purse_of (m_size_of k) (m_purse_of k))
def b_purse (c_check_heap : List SV → R) (c_purse_of : List SV → R) : FS := sSeq (sExpr (calF 1 c_check_heap [vVar 0])) (sRet (calF 1 c_purse_of [vVar 0]))
def m_purse : Nat → List SV → R
  | 0 => fun _ => .stuck
  | k + 1 => runB 1 (b_purse (m_check_heap k) (m_purse_of k))
def b_turn_take (c_check_heap : List SV → R) (c_joinT : List SV → R) : FS := sSeq (sExpr (calF 1 c_check_heap [vVar 0])) (sSeq (sIf (op2 fEq (vVar 0) (vTup [])) (sRaise "Empty") (sNil)) (sSeq (sUnp (tg2 1 2) (calF 2 c_joinT [op2 fIx (vVar 0) (vC (.int 0)), op2 fIx (vVar 0) (vC (.int 2))])) (sRet (vTup [op2 fIx (vVar 0) (vC (.int 1)), vVar 1, vVar 2]))))
def m_turn_take : Nat → List SV → R
  | 0 => fun _ => .stuck
  | k + 1 => runB 3 (b_turn_take (m_check_heap k) (m_joinT k))
def b_heap_from (c_heap_from : List SV → R) : FS := sSeq (sIf (op2 fEq (vVar 0) (vLst [])) (sRet (vTup [])) (sNil)) (sSeq (sSet 1 (vIdx (vVar 0) (cal1 fMin1 (vVar 0)))) (sRet (vTup [calF 1 c_heap_from [vSlH (vVar 0) (vVar 1)], op2 fIx (vVar 0) (vVar 1), calF 1 c_heap_from [vSlL (vVar 0) (op2 fAdd (vVar 1) (vC (.int 1)))]])))
def m_heap_from : Nat → List SV → R
  | 0 => fun _ => .stuck
  | k + 1 => runB 2 (b_heap_from (m_heap_from k))
def b_heap_of (c_check_keys : List SV → R) (c_heap_from : List SV → R) : FS := sSeq (sExpr (calF 1 c_check_keys [vVar 0])) (sSeq (sIf (op2 fNe (op1 fLenSet (vVar 0)) (cal1 fLen (vVar 0))) (sRaise "BadKey") (sNil)) (sRet (calF 1 c_heap_from [vVar 0])))
def m_heap_of : Nat → List SV → R
  | 0 => fun _ => .stuck
  | k + 1 => runB 1 (b_heap_of (m_check_keys k) (m_heap_from k))
def b_sizes_of (c_sizes_of : List SV → R) (c_size_of : List SV → R) : FS := sRet (vIf (op2 fEq (vVar 0) (vTup [])) (vLst []) (op2 fAdd (op2 fAdd (calF 1 c_sizes_of [op2 fIx (vVar 0) (vC (.int 0))]) (vLst [calF 1 c_size_of [vVar 0]])) (calF 1 c_sizes_of [op2 fIx (vVar 0) (vC (.int 2))])))
def m_sizes_of : Nat → List SV → R
  | 0 => fun _ => .stuck
  | k + 1 => runB 1 (b_sizes_of (m_sizes_of k) (m_size_of k))
def p_how_many_rows_1 (c_is_form : List SV → R) (c_sizes_of : List SV → R) : FS := sSet 1 (op2 fMul (vVar 1) (op2 fAdd (vVar 3) (vC (.int 1))))
def p_how_many_rows_2 (c_is_form : List SV → R) (c_sizes_of : List SV → R) : FS := sSet 1 (op2 fDiv (vVar 1) (vVar 4))
def b_how_many_rows (c_is_form : List SV → R) (c_sizes_of : List SV → R) : FS := sSeq (sIf (vNot (calF 1 c_is_form [vVar 0])) (sRaise "BadShape") (sNil)) (sSeq (sSet 1 (vC (.int 1))) (sSeq (sSet 2 (calF 1 c_sizes_of [vVar 0])) (sSeq (sFor (tgN 3) (itA iR1 [cal1 fLen (vVar 2)]) (p_how_many_rows_1 c_is_form c_sizes_of)) (sSeq (sFor (tgN 4) (itD iL (vVar 2)) (p_how_many_rows_2 c_is_form c_sizes_of)) (sRet (vVar 1))))))
def m_how_many_rows : Nat → List SV → R
  | 0 => fun _ => .stuck
  | k + 1 => runB 5 (b_how_many_rows (m_is_form k) (m_sizes_of k))
def b_check_key (c_is_key : List SV → R) : FS := sIf (vNot (calF 1 c_is_key [vVar 0])) (sRaise "BadKey") (sNil)
def m_check_key : Nat → List SV → R
  | 0 => fun _ => .stuck
  | k + 1 => runB 1 (b_check_key (m_is_key k))
def b_count_of (c_order_of : List SV → R) : FS := sRet (cal1 fSum (vLc [1] (tgN 1) (itD iL (vVar 0)) (vC (.bool true)) (op2 fShl (vC (.int 1)) (calF 1 c_order_of [vVar 1]))))
def m_count_of : Nat → List SV → R
  | 0 => fun _ => .stuck
  | k + 1 => runB 2 (b_count_of (m_order_of k))
def b_copied (c_copied : List SV → R) : FS := sRet (vTup [op2 fIx (vVar 0) (vC (.int 0)), vLc [1] (tgN 1) (itD iL (op2 fIx (vVar 0) (vC (.int 1)))) (vC (.bool true)) (calF 1 c_copied [vVar 1])])
def m_copied : Nat → List SV → R
  | 0 => fun _ => .stuck
  | k + 1 => runB 2 (b_copied (m_copied k))
def b_linked : FS := sSeq (sIf (op2 fLt (op2 fIx (vVar 1) (vC (.int 0))) (op2 fIx (vVar 0) (vC (.int 0)))) (sPar2 0 1 false false (vVar 1) (vVar 0)) (sNil)) (sRet (vTup [op2 fIx (vVar 0) (vC (.int 0)), op2 fAdd (vLst [vVar 1]) (op2 fIx (vVar 0) (vC (.int 1)))]))
def m_linked : Nat → List SV → R
  | 0 => fun _ => .stuck
  | k + 1 => runB 2 (b_linked)
def p_joinP_1 (c_order_of : List SV → R) (c_linked : List SV → R) : FS := sSeq (sSet 7 (op2 fAdd (vLc [8] (tgN 8) (itD iL (op2 fAdd (vVar 0) (vVar 1))) (op2 fEq (calF 1 c_order_of [vVar 8]) (vVar 6)) (vVar 8)) (vVar 3))) (sSeq (sSet 3 (vLst [])) (sSeq (sIf (op2 fGt (cal1 fLen (vVar 7)) (vC (.int 1))) (sSeq (sSet 3 (vLst [calF 2 c_linked [op2 fIx (vVar 7) (vC (.int 0)), op2 fIx (vVar 7) (vC (.int 1))]])) (sSeq (sSet 7 (vSlL (vVar 7) (vC (.int 2)))) (sAdd 4 (vC (.int 1))))) (sNil)) (sExt 2 (vVar 7))))
def b_joinP (c_order_of : List SV → R) (c_linked : List SV → R) : FS := sSeq (sPar3 2 3 4 true false false (vLst []) (vLst []) (vC (.int 0))) (sSeq (sSet 5 (cal1 fMax1 (op2 fAdd (vLc [8] (tgN 8) (itD iL (op2 fAdd (vVar 0) (vVar 1))) (vC (.bool true)) (calF 1 c_order_of [vVar 8])) (vLst [op1 fNeg (vC (.int 1))])))) (sSeq (sFor (tgN 6) (itA iR1 [op2 fAdd (vVar 5) (vC (.int 2))]) (p_joinP_1 c_order_of c_linked)) (sFrz 2 (sRet (vTup [vVar 2, vVar 4])))))
def m_joinP : Nat → List SV → R
  | 0 => fun _ => .stuck
  | k + 1 => runB 9 (b_joinP (m_order_of k) (m_linked k))
def b_pile_join (c_check_pile : List SV → R) (c_count_of : List SV → R) (c_copied : List SV → R) (c_joinP : List SV → R) : FS := sSeq (sExpr (calF 1 c_check_pile [vVar 0])) (sSeq (sExpr (calF 1 c_check_pile [vVar 1])) (sSeq (sIf (op2 fGt (op2 fAdd (calF 1 c_count_of [vVar 0]) (calF 1 c_count_of [vVar 1])) (vC (.int 40))) (sRaise "TooMany") (sNil)) (sRet (calF 2 c_joinP [vLc [2] (tgN 2) (itD iL (vVar 0)) (vC (.bool true)) (calF 1 c_copied [vVar 2]), vLc [2] (tgN 2) (itD iL (vVar 1)) (vC (.bool true)) (calF 1 c_copied [vVar 2])]))))
def m_pile_join : Nat → List SV → R
  | 0 => fun _ => .stuck
  | k + 1 => runB 3 (b_pile_join (m_check_pile k) (m_count_of k) (m_copied k) (m_joinP k))
def b_pile_put (c_check_pile : List SV → R) (c_check_key : List SV → R) (c_count_of : List SV → R) (c_copied : List SV → R) (c_joinP : List SV → R) : FS := sSeq (sExpr (calF 1 c_check_pile [vVar 0])) (sSeq (sExpr (calF 1 c_check_key [vVar 1])) (sSeq (sIf (op2 fGt (op2 fAdd (calF 1 c_count_of [vVar 0]) (vC (.int 1))) (vC (.int 40))) (sRaise "TooMany") (sNil)) (sRet (calF 2 c_joinP [vLc [2] (tgN 2) (itD iL (vVar 0)) (vC (.bool true)) (calF 1 c_copied [vVar 2]), vLst [vTup [vVar 1, vLst []]]]))))
def m_pile_put : Nat → List SV → R
  | 0 => fun _ => .stuck
  | k + 1 => runB 3 (b_pile_put (m_check_pile k) (m_check_key k) (m_count_of k) (m_copied k) (m_joinP k))
def b_pile_take (c_check_pile : List SV → R) (c_copied : List SV → R) (c_joinP : List SV → R) : FS := sSeq (sExpr (calF 1 c_check_pile [vVar 0])) (sSeq (sIf (op2 fEq (vVar 0) (vLst [])) (sRaise "Empty") (sNil)) (sSeq (sSet 1 (vLc [6] (tgN 6) (itD iL (vVar 0)) (vC (.bool true)) (calF 1 c_copied [vVar 6]))) (sSeq (sSet 2 (vLc [6] (tgN 6) (itD iL (vVar 1)) (vC (.bool true)) (op2 fIx (vVar 6) (vC (.int 0))))) (sSeq (sSet 3 (vIdx (vVar 2) (cal1 fMin1 (vVar 2)))) (sSeq (sUnp (tg2 4 5) (calF 2 c_joinP [op2 fAdd (vSlH (vVar 1) (vVar 3)) (vSlL (vVar 1) (op2 fAdd (vVar 3) (vC (.int 1)))), op1 fRev (op2 fIx (op2 fIx (vVar 1) (vVar 3)) (vC (.int 1)))])) (sRet (vTup [op2 fIx (vVar 2) (vVar 3), vVar 4])))))))
def m_pile_take : Nat → List SV → R
  | 0 => fun _ => .stuck
  | k + 1 => runB 7 (b_pile_take (m_check_pile k) (m_copied k) (m_joinP k))
def p_pile_of_1 (c_check_keys : List SV → R) (c_joinP : List SV → R) : FS := sSeq (sUnp (tg2 1 4) (calF 2 c_joinP [vVar 1, vLst [vTup [vVar 3, vLst []]]])) (sAdd 2 (vVar 4))
def b_pile_of (c_check_keys : List SV → R) (c_joinP : List SV → R) : FS := sSeq (sExpr (calF 1 c_check_keys [vVar 0])) (sSeq (sPar2 1 2 false false (vLst []) (vC (.int 0))) (sSeq (sFor (tgN 3) (itD iL (vVar 0)) (p_pile_of_1 c_check_keys c_joinP)) (sRet (vTup [vVar 1, vVar 2]))))
def m_pile_of : Nat → List SV → R
  | 0 => fun _ => .stuck
  | k + 1 => runB 5 (b_pile_of (m_check_keys k) (m_joinP k))
def b_l_leaf : FS := sRet (vTup [vTup [], vVar 0, vTup []])
def m_l_leaf : Nat → List SV → R
  | 0 => fun _ => .stuck
  | k + 1 => runB 1 (b_l_leaf)
def b_l_sort (c_ask : Nat → List SV → R) : FS := sSeq (sTryV 2 0 ["BadHeap", "BadPile", "TooMany"] 1 c_ask [vVar 1] (fun cn => sSeq (sSet 3 (vLst [vIsE 2 cn "BadHeap", vIsE 2 cn "BadPile"])) (sSeq (sSet 3 (op2 fAdd (vVar 3) (vLst [vIsE 2 cn "TooMany", vC (.bool true)]))) (sRet (op2 fIx (vTup [vC (.str "heap"), vC (.str "pile"), vC (.str "many"), vC (.str "other")]) (vMth fIdxD (vVar 3) (vC (.bool true)))))))) (sRet (vC (.str "fine")))
def m_l_sort (c_ask : Nat → List SV → R) : Nat → List SV → R
  | 0 => fun _ => .stuck
  | k + 1 => runB 4 (b_l_sort c_ask)
def p_l_rows_right_k23_1 (c_heap_of : List SV → R) (c_row_of : List SV → R) (c_l_leaf : List SV → R) (c_how_many_rows : List SV → R) (c_rank : List SV → R) (c_keys_of : List SV → R) : FS := sPar2 3 4 false false (vTup [vVar 3, op2 fSub (vVar 0) (vVar 5), vTup []]) (vTup [vTup [], op2 fSub (op2 fAdd (vVar 0) (vC (.int 39))) (vVar 5), vVar 4])
def b_l_rows_right_k23 (c_heap_of : List SV → R) (c_row_of : List SV → R) (c_l_leaf : List SV → R) (c_how_many_rows : List SV → R) (c_rank : List SV → R) (c_keys_of : List SV → R) : FS := sSeq (sPar2 1 2 false false (vLc [5] (tgN 5) (itA iR1 [vC (.int 40)]) (vC (.bool true)) (op2 fAdd (vVar 0) (vVar 5))) (vLc [5] (tgN 5) (itA iR1 [vC (.int 40)]) (vC (.bool true)) (op2 fSub (vVar 0) (vVar 5)))) (sSeq (sUnp (tg2 3 4) (vTup [vTup [], vTup []])) (sSeq (sFor (tgN 5) (itA iR1 [vC (.int 40)]) (p_l_rows_right_k23_1 c_heap_of c_row_of c_l_leaf c_how_many_rows c_rank c_keys_of)) (sSeq (sIf (op2 fNe (calF 1 c_heap_of [vVar 2]) (vVar 3)) (sRet (vC (.bool false))) (sNil)) (sSeq (sIf (op2 fNe (calF 1 c_heap_of [vVar 1]) (vVar 4)) (sRet (vC (.bool false))) (sNil)) (sSeq (sIf (op2 fNe (calF 1 c_row_of [vVar 3]) (vVar 2)) (sRet (vC (.bool false))) (sNil)) (sSeq (sIf (op2 fNe (calF 1 c_row_of [vVar 4]) (vVar 1)) (sRet (vC (.bool false))) (sNil)) (sSeq (sIf (op2 fNe (calF 1 c_heap_of [vLst []]) (vTup [])) (sRet (vC (.bool false))) (sNil)) (sSeq (sIf (op2 fNe (calF 1 c_heap_of [vLst [op2 fAdd (vVar 0) (vC (.int 2)), vVar 0, op2 fAdd (vVar 0) (vC (.int 1))]]) (vTup [calF 1 c_l_leaf [op2 fAdd (vVar 0) (vC (.int 2))], vVar 0, calF 1 c_l_leaf [op2 fAdd (vVar 0) (vC (.int 1))]])) (sRet (vC (.bool false))) (sNil)) (sSeq (sIf (op2 fNe (calF 1 c_row_of [vTup [vTup [], vVar 0, calF 1 c_l_leaf [vVar 0]]]) (vLst [vVar 0, vVar 0])) (sRet (vC (.bool false))) (sNil)) (sSeq (sSet 6 (vTup [calF 1 c_l_leaf [op2 fAdd (vVar 0) (vC (.int 9))], vVar 0, calF 1 c_l_leaf [op2 fAdd (vVar 0) (vC (.int 5))]])) (sSeq (sSet 7 (vLst [vTup [vTup [], vC (.int 1)], vTup [calF 1 c_l_leaf [vVar 0], vC (.int 1)], vTup [vVar 6, vC (.int 2)]])) (sSeq (sSet 7 (op2 fAdd (vVar 7) (vLst [vTup [vTup [calF 1 c_l_leaf [vVar 0], op2 fAdd (vVar 0) (vC (.int 9)), calF 1 c_l_leaf [op2 fSub (vVar 0) (vC (.int 5))]], vC (.int 2)], vTup [vVar 3, vC (.int 1)]]))) (sSeq (sSet 7 (op2 fAdd (vVar 7) (vLst [vTup [vTup [vVar 6, vVar 0, vVar 6], vC (.int 80)], vTup [vTup [vVar 6, vVar 0, vTup []], vC (.int 2)]]))) (sSeq (sIf (vNot (cal1 fAll (vLc [8, 9] (tg2 8 9) (itD iL (vVar 7)) (vC (.bool true)) (op2 fEq (calF 1 c_how_many_rows [vVar 8]) (vVar 9))))) (sRet (vC (.bool false))) (sNil)) (sSeq (sIf (op2 fNe (calF 1 c_rank [vTup []]) (vC (.int 0))) (sRet (vC (.bool false))) (sNil)) (sSeq (sIf (op2 fNe (calF 1 c_rank [vVar 3]) (vC (.int 1))) (sRet (vC (.bool false))) (sNil)) (sSeq (sIf (op2 fNe (calF 1 c_rank [vVar 6]) (vC (.int 2))) (sRet (vC (.bool false))) (sNil)) (sSeq (sIf (op2 fNe (calF 1 c_rank [vTup [vVar 6, vVar 0, vVar 6]]) (vC (.int 3))) (sRet (vC (.bool false))) (sNil)) (sRet (op2 fEq (calF 1 c_keys_of [vVar 6]) (vLst [vVar 0, op2 fAdd (vVar 0) (vC (.int 5)), op2 fAdd (vVar 0) (vC (.int 9))])))))))))))))))))))))
def m_l_rows_right_k23 : Nat → List SV → R
  | 0 => fun _ => .stuck
  | k + 1 => runB 10 (b_l_rows_right_k23 (m_heap_of k) (m_row_of k) (m_l_leaf k) (m_how_many_rows k) (m_rank k) (m_keys_of k))
def b_l_inner_right (c_l_leaf : List SV → R) (c_leaned : List SV → R) (c_shows : Nat → List SV → R) : FS := sSeq (sSet 1 (vTup [vTup [], vVar 0, vTup [vTup [vTup [], op2 fAdd (vVar 0) (vC (.int 3)), calF 1 c_l_leaf [op2 fAdd (vVar 0) (vC (.int 4))]], op2 fAdd (vVar 0) (vC (.int 1)), calF 1 c_l_leaf [op2 fAdd (vVar 0) (vC (.int 2))]]])) (sSeq (sSet 2 (calF 1 c_leaned [vVar 1])) (sSeq (sIf (op2 fNe (vAt 2 1 (vVar 2)) (vLst [vLst [], vLst [vC (.str "right"), vC (.str "left")]])) (sRet (vC (.bool false))) (sNil)) (sSeq (sIf (vNot (op2 fIs (vMet 2 c_shows (vVar 2) [vVar 1]) (vC (.bool true)))) (sRet (vC (.bool false))) (sNil)) (sRet (op2 fIs (vMet 2 c_shows (vNew0 0) [vAt 2 0 (vVar 2)]) (vC (.bool true)))))))
def m_l_inner_right : Nat → List SV → R
  | 0 => fun _ => .stuck
  | k + 1 => runB 3 (b_l_inner_right (m_l_leaf k) (m_leaned k) (m_shows k))
def p_l_leaned_right_k23_1 (c_l_leaf : List SV → R) (c_leaned : List SV → R) (c_shows : Nat → List SV → R) (c_Leaned : List FE → FE) (c_Slants : List FE → FE) (c_judged : List SV → R) (c_l_inner_right : List SV → R) : FS := sIf (vOr (op2 fNe (vMet 2 c_shows (c_Slants [vVar 5]) [vVar 1]) (vVar 6)) (vMet 2 c_shows (c_Slants [vVar 5]) [vVar 2])) (sRet (vC (.bool false))) (sNil)
def p_l_leaned_right_k23_2 (c_l_leaf : List SV → R) (c_leaned : List SV → R) (c_shows : Nat → List SV → R) (c_Leaned : List FE → FE) (c_Slants : List FE → FE) (c_judged : List SV → R) (c_l_inner_right : List SV → R) : FS := sIf (vMet 2 c_shows (c_Leaned [vVar 2, vVar 8]) [vVar 1]) (sRet (vC (.bool false))) (sNil)
def b_l_leaned_right_k23 (c_l_leaf : List SV → R) (c_leaned : List SV → R) (c_shows : Nat → List SV → R) (c_Leaned : List FE → FE) (c_Slants : List FE → FE) (c_judged : List SV → R) (c_l_inner_right : List SV → R) : FS := sSeq (sSet 1 (vTup [vTup [], vVar 0, vTup [vTup [], op2 fAdd (vVar 0) (vC (.int 1)), calF 1 c_l_leaf [op2 fAdd (vVar 0) (vC (.int 2))]]])) (sSeq (sSet 2 (vTup [vTup [calF 1 c_l_leaf [op2 fAdd (vVar 0) (vC (.int 2))], op2 fAdd (vVar 0) (vC (.int 1)), vTup []], vVar 0, vTup []])) (sSeq (sSet 3 (calF 1 c_leaned [vVar 1])) (sSeq (sIf (op2 fNe (vAt 2 0 (vVar 3)) (vVar 2)) (sRet (vC (.bool false))) (sNil)) (sSeq (sIf (op2 fNe (vAt 2 1 (vVar 3)) (vLst [vLst [], vLst [vC (.str "right")]])) (sRet (vC (.bool false))) (sNil)) (sSeq (sIf (op2 fIsn (vMet 2 c_shows (vVar 3) [vVar 1]) (vC (.bool true))) (sRet (vC (.bool false))) (sNil)) (sSeq (sIf (op2 fIsn (vMet 2 c_shows (c_Leaned [vVar 2, vLst [vLst [], vLst [vC (.str "right")]]]) [vVar 1]) (vC (.bool true))) (sRet (vC (.bool false))) (sNil)) (sSeq (sSet 4 (vLst [vTup [vLst [], vC (.bool true)], vTup [vLst [vC (.str "right")], vC (.bool true)], vTup [vLst [vC (.str "right"), vC (.str "right")], vC (.bool false)]])) (sSeq (sSet 4 (op2 fAdd (vVar 4) (vLst [vTup [vLst [vC (.str "left")], vC (.bool false)], vTup [vLst [vC (.str "up")], vC (.bool false)], vTup [op2 fMul (vLst [vC (.str "right")]) (vC (.int 4)), vC (.bool false)]]))) (sSeq (sFor (tg2 5 6) (itD iL (vVar 4)) (p_l_leaned_right_k23_1 c_l_leaf c_leaned c_shows c_Leaned c_Slants c_judged c_l_inner_right)) (sSeq (sSet 7 (vTup [op2 fIx (vVar 2) (vC (.int 0)), vVar 0, calF 1 c_l_leaf [op2 fAdd (vVar 0) (vC (.int 7))]])) (sSeq (sSet 4 (vLst [vLst [vLst []], vLst [vLst [vC (.str "right")]], vLst [vLst [], vLst [vC (.str "right")], vLst [vC (.str "right"), vC (.str "right")]]])) (sSeq (sSet 4 (op2 fAdd (vVar 4) (vLst [vLst [vLst [], vLst [], vLst [vC (.str "right")]], vLst [vLst [], vLst [vC (.str "left")]], vLst [vLst [vC (.str "right")], vLst []], vLst []]))) (sSeq (sFor (tgN 8) (itD iL (vVar 4)) (p_l_leaned_right_k23_2 c_l_leaf c_leaned c_shows c_Leaned c_Slants c_judged c_l_inner_right)) (sSeq (sIf (vMet 2 c_shows (c_Leaned [vVar 1, vLst [vLst [], vLst [vC (.str "right")]]]) [vVar 1]) (sRet (vC (.bool false))) (sNil)) (sSeq (sIf (vMet 2 c_shows (c_Leaned [vVar 7, vLst [vLst [], vLst [vC (.str "right")]]]) [vVar 1]) (sRet (vC (.bool false))) (sNil)) (sSeq (sIf (op2 fIsn (vMet 2 c_shows (c_Leaned [vVar 2, vLst []]) [vVar 2]) (vC (.bool true))) (sRet (vC (.bool false))) (sNil)) (sSeq (sIf (vNot (vIsO (fun c => c == 1) (calF 1 c_judged [vVar 1]))) (sRet (vC (.bool false))) (sNil)) (sSeq (sIf (vNot (vIsO (fun c => c == 0) (calF 1 c_judged [vVar 2]))) (sRet (vC (.bool false))) (sNil)) (sSeq (sIf (vMet 2 c_shows (vNew0 0) [vVar 1]) (sRet (vC (.bool false))) (sNil)) (sSeq (sIf (op2 fIsn (vMet 2 c_shows (vNew0 0) [vTup []]) (vC (.bool true))) (sRet (vC (.bool false))) (sNil)) (sRet (calF 1 c_l_inner_right [vVar 0]))))))))))))))))))))))
def m_l_leaned_right_k23 : Nat → List SV → R
  | 0 => fun _ => .stuck
  | k + 1 => runB 9 (b_l_leaned_right_k23 (m_l_leaf k) (m_leaned k) (m_shows k) (m_Leaned k) (m_Slants k) (m_judged k) (m_l_inner_right k))
def p_l_heaps_right_k23_1 (c_lean_of : List SV → R) (c_shows : Nat → List SV → R) (c_keys_of : List SV → R) (c_lean_take : List SV → R) (c_lean_join : List SV → R) (c_how_many : List SV → R) (c_shape_by : List SV → R) (c_l_leaf : List SV → R) (c_number_of : List SV → R) (c_rank : List SV → R) (c_W_l_leaf : List SV → R) (c_W_lean_join : List SV → R) (c_L_l_sort : (List SV → R) → List SV → R) : FS := sSeq (sUnp (tg2 5 2) (calF 1 c_lean_take [vVar 2])) (sSeq (sApp 3 (vVar 5)) (sIf (op2 fIsn (vMet 2 c_shows (vNew0 0) [vVar 2]) (vC (.bool true))) (sRet (vC (.bool false))) (sNil)))
def b_l_heaps_right_k23 (c_lean_of : List SV → R) (c_shows : Nat → List SV → R) (c_keys_of : List SV → R) (c_lean_take : List SV → R) (c_lean_join : List SV → R) (c_how_many : List SV → R) (c_shape_by : List SV → R) (c_l_leaf : List SV → R) (c_number_of : List SV → R) (c_rank : List SV → R) (c_W_l_leaf : List SV → R) (c_W_lean_join : List SV → R) (c_L_l_sort : (List SV → R) → List SV → R) : FS := sSeq (sSet 1 (vLc [4] (tgN 4) (itA iR1 [vC (.int 40)]) (vC (.bool true)) (op2 fAdd (vVar 0) (op2 fMod (op2 fMul (vVar 4) (vC (.int 7))) (vC (.int 40)))))) (sSeq (sPar2 2 3 false true (calF 1 c_lean_of [vVar 1]) (vLst [])) (sSeq (sIf (vOr (op2 fIsn (vMet 2 c_shows (vNew0 0) [vVar 2]) (vC (.bool true))) (vOr (op2 fNe (calF 1 c_keys_of [vVar 2]) (cal1 fSorted (vVar 1))) (op2 fNe (calF 1 c_lean_of [vLst []]) (vTup [])))) (sRet (vC (.bool false))) (sNil)) (sSeq (sFor (tgN 4) (itA iR1 [vC (.int 40)]) (p_l_heaps_right_k23_1 c_lean_of c_shows c_keys_of c_lean_take c_lean_join c_how_many c_shape_by c_l_leaf c_number_of c_rank c_W_l_leaf c_W_lean_join c_L_l_sort)) (sSeq (sSet 6 (calF 2 c_lean_join [calF 1 c_lean_of [vSlH (vVar 1) (vC (.int 20))], calF 1 c_lean_of [vSlH (vVar 1) (vC (.int 20))]])) (sSeq (sFrz 3 (sIf (op2 fNe (vVar 3) (cal1 fSorted (vVar 1))) (sRet (vC (.bool false))) (sNil))) (sSeq (sIf (op2 fNe (vVar 2) (vTup [])) (sRet (vC (.bool false))) (sNil)) (sSeq (sIf (op2 fNe (calF 1 c_keys_of [vVar 6]) (cal1 fSorted (op2 fMul (vSlH (vVar 1) (vC (.int 20))) (vC (.int 2))))) (sRet (vC (.bool false))) (sNil)) (sSeq (sIf (op2 fNe (calF 2 c_lean_join [vTup [], vTup []]) (vTup [])) (sRet (vC (.bool false))) (sNil)) (sSeq (sIf (op2 fNe (vLc [8] (tgN 8) (itA iR1 [vC (.int 6)]) (vC (.bool true)) (calF 1 c_how_many [vVar 8])) (vLst [vC (.int 1), vC (.int 1), vC (.int 1), vC (.int 2), vC (.int 4), vC (.int 8)])) (sRet (vC (.bool false))) (sNil)) (sSeq (sOwn 3 (vLc [4] (tgN 4) (itA iR1 [vC (.int 2)]) (vC (.bool true)) (calF 2 c_shape_by [vC (.int 3), vVar 4]))) (sSeq (sFrz 3 (sIf (op2 fNe (vVar 3) (vLst [vTup [vTup [calF 1 c_l_leaf [vC (.int 0)], vC (.int 0), vTup []], vC (.int 0), vTup []], vTup [calF 1 c_l_leaf [vC (.int 0)], vC (.int 0), calF 1 c_l_leaf [vC (.int 0)]]])) (sRet (vC (.bool false))) (sNil))) (sSeq (sIf (op2 fNe (calF 1 c_number_of [vTup [calF 1 c_l_leaf [op2 fAdd (vVar 0) (vC (.int 5))], vVar 0, calF 1 c_l_leaf [op2 fAdd (vVar 0) (vC (.int 2))]]]) (vC (.int 1))) (sRet (vC (.bool false))) (sNil)) (sSeq (sIf (op2 fNe (calF 1 c_number_of [vTup []]) (vC (.int 0))) (sRet (vC (.bool false))) (sNil)) (sSeq (sIf (op2 fNe (calF 1 c_number_of [calF 2 c_shape_by [vC (.int 40), op2 fSub (calF 1 c_how_many [vC (.int 40)]) (vC (.int 1))]]) (op2 fSub (calF 1 c_how_many [vC (.int 40)]) (vC (.int 1)))) (sRet (vC (.bool false))) (sNil)) (sSeq (sSet 7 (vLc [4] (tgN 4) (itA iR1 [calF 1 c_how_many [vC (.int 7)]]) (vC (.bool true)) (calF 1 c_rank [calF 2 c_shape_by [vC (.int 7), vVar 4]]))) (sSeq (sIf (vOr (op2 fNe (vVar 7) (cal1 fSorted (vVar 7))) (op2 fNe (op2 fIx (vVar 7) (op1 fNeg (vC (.int 1)))) (vC (.int 3)))) (sRet (vC (.bool false))) (sNil)) (sRet (op2 fEq (calL 2 c_L_l_sort (calF 2 c_W_lean_join [vVar 0, calF 1 c_W_l_leaf [vVar 1]]) [0] [calF 1 c_lean_of [vVar 1]]) (vC (.str "many"))))))))))))))))))))
def m_l_heaps_right_k23 : Nat → List SV → R
  | k + 3 => runB 9 (b_l_heaps_right_k23 (m_lean_of (k + 2)) (m_shows (k + 2)) (m_keys_of (k + 2)) (m_lean_take (k + 2)) (m_lean_join (k + 2)) (m_how_many (k + 2)) (m_shape_by (k + 2)) (m_l_leaf (k + 2)) (m_number_of (k + 2)) (m_rank (k + 2)) (m_l_leaf k) (m_lean_join k) (fun m1 => m_l_sort (fun _ => m1) (k + 2)))
  | _ => fun _ => .stuck
def b_l_turns_right (c_l_leaf : List SV → R) (c_turn_join : List SV → R) (c_turn_take : List SV → R) (c_purse : List SV → R) : FS := sSeq (sPar2 1 2 false false (calF 1 c_l_leaf [vVar 0]) (vTup [calF 1 c_l_leaf [op2 fAdd (vVar 0) (vC (.int 1))], vVar 0, calF 1 c_l_leaf [op2 fAdd (vVar 0) (vC (.int 2))]])) (sSeq (sIf (op2 fNe (calF 2 c_turn_join [vTup [], vVar 2]) (vTup [vVar 2, vC (.int 0)])) (sRet (vC (.bool false))) (sNil)) (sSeq (sIf (op2 fNe (calF 2 c_turn_join [vVar 2, vTup []]) (vTup [vVar 2, vC (.int 0)])) (sRet (vC (.bool false))) (sNil)) (sSeq (sIf (op2 fNe (calF 2 c_turn_join [vTup [], vTup []]) (vTup [vTup [], vC (.int 0)])) (sRet (vC (.bool false))) (sNil)) (sSeq (sIf (op2 fNe (calF 1 c_turn_take [vVar 1]) (vTup [vVar 0, vTup [], vC (.int 0)])) (sRet (vC (.bool false))) (sNil)) (sSeq (sIf (op2 fNe (calF 2 c_turn_join [vVar 1, vVar 1]) (vTup [vTup [calF 1 c_l_leaf [vVar 0], vVar 0, vTup []], vC (.int 1)])) (sRet (vC (.bool false))) (sNil)) (sSeq (sIf (op2 fNe (calF 2 c_turn_join [calF 1 c_l_leaf [op2 fAdd (vVar 0) (vC (.int 5))], vVar 1]) (vTup [vTup [calF 1 c_l_leaf [op2 fAdd (vVar 0) (vC (.int 5))], vVar 0, vTup []], vC (.int 1)])) (sRet (vC (.bool false))) (sNil)) (sSeq (sIf (op2 fNe (calF 2 c_turn_join [vVar 2, vVar 1]) (vTup [vTup [vTup [calF 1 c_l_leaf [op2 fAdd (vVar 0) (vC (.int 2))], vVar 0, vTup []], vVar 0, calF 1 c_l_leaf [op2 fAdd (vVar 0) (vC (.int 1))]], vC (.int 2)])) (sRet (vC (.bool false))) (sNil)) (sSeq (sIf (op2 fNe (calF 1 c_turn_take [vVar 2]) (vTup [vVar 0, vTup [calF 1 c_l_leaf [op2 fAdd (vVar 0) (vC (.int 2))], op2 fAdd (vVar 0) (vC (.int 1)), vTup []], vC (.int 1)])) (sRet (vC (.bool false))) (sNil)) (sSeq (sSet 3 (vTup [vTup [], vVar 0, vTup [vTup [], op2 fAdd (vVar 0) (vC (.int 1)), calF 1 c_l_leaf [op2 fAdd (vVar 0) (vC (.int 2))]]])) (sSeq (sIf (op2 fNe (calF 1 c_purse [vVar 2]) (vC (.int 0))) (sRet (vC (.bool false))) (sNil)) (sSeq (sIf (op2 fNe (calF 1 c_purse [vTup [vTup [], vVar 0, vVar 1]]) (vC (.int 1))) (sRet (vC (.bool false))) (sNil)) (sSeq (sIf (op2 fNe (calF 1 c_purse [vVar 3]) (vC (.int 2))) (sRet (vC (.bool false))) (sNil)) (sSeq (sIf (op2 fNe (calF 1 c_purse [vTup []]) (vC (.int 0))) (sRet (vC (.bool false))) (sNil)) (sRet (op2 fEq (calF 1 c_purse [vTup [vVar 1, vVar 0, vTup []]]) (vC (.int 0)))))))))))))))))
def m_l_turns_right : Nat → List SV → R
  | 0 => fun _ => .stuck
  | k + 1 => runB 4 (b_l_turns_right (m_l_leaf k) (m_turn_join k) (m_turn_take k) (m_purse k))
def p_l_pile_refused_right_1 (c_pile_of : List SV → R) (c_l_leaf : List SV → R) (c_W_pile_put : List SV → R) (c_L_l_sort : (List SV → R) → List SV → R) (c_W_keys_of : List SV → R) (c_W_purse : List SV → R) (c_W_pile_keys : List SV → R) (c_W_pile_take : List SV → R) : FS := sSet 2 (vTup [vVar 2, vVar 0, vVar 2])
def b_l_pile_refused_right (c_pile_of : List SV → R) (c_l_leaf : List SV → R) (c_W_pile_put : List SV → R) (c_L_l_sort : (List SV → R) → List SV → R) (c_W_keys_of : List SV → R) (c_W_purse : List SV → R) (c_W_pile_keys : List SV → R) (c_W_pile_take : List SV → R) : FS := sSeq (sUnp (tg3 1 2 3) (vTup [op2 fIx (calF 1 c_pile_of [op2 fMul (vLst [vVar 0]) (vC (.int 40))]) (vC (.int 0)), calF 1 c_l_leaf [vVar 0], vTup [vVar 0, vLst []]])) (sSeq (sFor (tgN 4) (itA iR1 [vC (.int 60)]) (p_l_pile_refused_right_1 c_pile_of c_l_leaf c_W_pile_put c_L_l_sort c_W_keys_of c_W_purse c_W_pile_keys c_W_pile_take)) (sSeq (sIf (op2 fNe (calL 2 c_L_l_sort (calF 2 c_W_pile_put [vVar 1, vVar 0]) [1] [vVar 0]) (vC (.str "many"))) (sRet (vC (.bool false))) (sNil)) (sSeq (sIf (op2 fNe (calL 2 c_L_l_sort (calF 1 c_W_keys_of [vVar 0]) [] [vVar 2]) (vC (.str "heap"))) (sRet (vC (.bool false))) (sNil)) (sSeq (sIf (op2 fNe (calL 2 c_L_l_sort (calF 1 c_W_purse [vVar 0]) [] [vVar 2]) (vC (.str "heap"))) (sRet (vC (.bool false))) (sNil)) (sSeq (sSet 5 (vTup [vVar 0, vLst [vVar 3]])) (sSeq (sIf (op2 fNe (calL 2 c_L_l_sort (calF 1 c_W_pile_keys [vVar 0]) [] [vLst [vVar 5, vVar 3]]) (vC (.str "pile"))) (sRet (vC (.bool false))) (sNil)) (sRet (op2 fEq (calL 2 c_L_l_sort (calF 1 c_W_pile_take [vVar 0]) [] [vLst [vVar 3, vVar 3]]) (vC (.str "pile"))))))))))
def m_l_pile_refused_right : Nat → List SV → R
  | k + 3 => runB 6 (b_l_pile_refused_right (m_pile_of (k + 2)) (m_l_leaf (k + 2)) (m_pile_put k) (fun m1 => m_l_sort (fun _ => m1) (k + 2)) (m_keys_of k) (m_purse k) (m_pile_keys k) (m_pile_take k))
  | _ => fun _ => .stuck
def p_l_piles_right_1 (c_pile_of : List SV → R) (c_pile_keys : List SV → R) (c_pile_join : List SV → R) (c_pile_put : List SV → R) (c_pile_take : List SV → R) (c_l_pile_refused_right : List SV → R) : FS := sSeq (sUnp (tg2 2 3) (calF 1 c_pile_of [vLc [9] (tgN 9) (itA iR1 [vVar 1]) (vC (.bool true)) (op2 fAdd (vVar 0) (op2 fMod (op2 fMul (vVar 9) (vC (.int 3))) (vC (.int 41))))])) (sSeq (sSet 4 (cal1 fSum (vLc [11] (tgN 11) (itA iR1 [vC (.int 6)]) (vC (.bool true)) (op2 fAnd (op2 fShr (vVar 1) (vVar 11)) (vC (.int 1)))))) (sSeq (sIf (op2 fNe (cal1 fLen (vVar 2)) (vVar 4)) (sRet (vC (.bool false))) (sNil)) (sSeq (sIf (op2 fNe (vVar 3) (op2 fSub (vVar 1) (vVar 4))) (sRet (vC (.bool false))) (sNil)) (sIf (op2 fNe (calF 1 c_pile_keys [vVar 2]) (cal1 fSorted (vLc [9] (tgN 9) (itA iR1 [vVar 1]) (vC (.bool true)) (op2 fAdd (vVar 0) (op2 fMod (op2 fMul (vVar 9) (vC (.int 3))) (vC (.int 41))))))) (sRet (vC (.bool false))) (sNil)))))
def p_l_piles_right_2 (c_pile_of : List SV → R) (c_pile_keys : List SV → R) (c_pile_join : List SV → R) (c_pile_put : List SV → R) (c_pile_take : List SV → R) (c_l_pile_refused_right : List SV → R) : FS := sSeq (sUnp (tg2 10 2) (calF 1 c_pile_take [vVar 2])) (sApp 8 (vVar 10))
def b_l_piles_right (c_pile_of : List SV → R) (c_pile_keys : List SV → R) (c_pile_join : List SV → R) (c_pile_put : List SV → R) (c_pile_take : List SV → R) (c_l_pile_refused_right : List SV → R) : FS := sSeq (sFor (tgN 1) (itA iR3 [vC (.int 0), vC (.int 41), vC (.int 5)]) (p_l_piles_right_1 c_pile_of c_pile_keys c_pile_join c_pile_put c_pile_take c_l_pile_refused_right)) (sSeq (sPar2 5 6 false false (op2 fIx (calF 1 c_pile_of [vLst [vVar 0, op2 fAdd (vVar 0) (vC (.int 1)), op2 fAdd (vVar 0) (vC (.int 2))]]) (vC (.int 0))) (op2 fIx (calF 1 c_pile_of [vLst [op2 fAdd (vVar 0) (vC (.int 1))]]) (vC (.int 0)))) (sSeq (sUnp (tg2 7 3) (calF 2 c_pile_join [vVar 5, vVar 6])) (sSeq (sIf (op2 fNe (vVar 3) (vC (.int 2))) (sRet (vC (.bool false))) (sNil)) (sSeq (sIf (op2 fNe (cal1 fLen (vVar 7)) (vC (.int 1))) (sRet (vC (.bool false))) (sNil)) (sSeq (sIf (op2 fNe (op2 fIx (op2 fIx (vVar 7) (vC (.int 0))) (vC (.int 0))) (vVar 0)) (sRet (vC (.bool false))) (sNil)) (sSeq (sIf (op2 fNe (cal1 fLen (op2 fIx (op2 fIx (vVar 7) (vC (.int 0))) (vC (.int 1)))) (vC (.int 2))) (sRet (vC (.bool false))) (sNil)) (sSeq (sIf (op2 fNe (calF 2 c_pile_put [vLst [], vVar 0]) (vTup [vLst [vTup [vVar 0, vLst []]], vC (.int 0)])) (sRet (vC (.bool false))) (sNil)) (sSeq (sIf (op2 fNe (op2 fIx (calF 2 c_pile_put [vVar 5, op2 fAdd (vVar 0) (vC (.int 9))]) (vC (.int 1))) (vC (.int 2))) (sRet (vC (.bool false))) (sNil)) (sSeq (sIf (op2 fNe (op2 fIx (calF 2 c_pile_join [vLst [], vLst []]) (vC (.int 0))) (vLst [])) (sRet (vC (.bool false))) (sNil)) (sSeq (sIf (op2 fNe (op2 fIx (calF 2 c_pile_join [vVar 5, vLst []]) (vC (.int 1))) (vC (.int 0))) (sRet (vC (.bool false))) (sNil)) (sSeq (sIf (op2 fNe (calF 1 c_pile_of [vLst []]) (vTup [vLst [], vC (.int 0)])) (sRet (vC (.bool false))) (sNil)) (sSeq (sPar2 2 8 false true (op2 fIx (calF 1 c_pile_of [vLc [9] (tgN 9) (itA iR1 [vC (.int 32)]) (vC (.bool true)) (op2 fAdd (vVar 0) (op2 fMod (vVar 9) (vC (.int 4))))]) (vC (.int 0))) (vLst [])) (sSeq (sFor (tgN 9) (itA iR1 [vC (.int 32)]) (p_l_piles_right_2 c_pile_of c_pile_keys c_pile_join c_pile_put c_pile_take c_l_pile_refused_right)) (sSeq (sFrz 8 (sIf (vOr (op2 fNe (vVar 8) (cal1 fSorted (vLc [9] (tgN 9) (itA iR1 [vC (.int 32)]) (vC (.bool true)) (op2 fAdd (vVar 0) (op2 fMod (vVar 9) (vC (.int 4))))))) (op2 fNe (vVar 2) (vLst []))) (sRet (vC (.bool false))) (sNil))) (sRet (calF 1 c_l_pile_refused_right [vVar 0]))))))))))))))))
def m_l_piles_right : Nat → List SV → R
  | 0 => fun _ => .stuck
  | k + 1 => runB 12 (b_l_piles_right (m_pile_of k) (m_pile_keys k) (m_pile_join k) (m_pile_put k) (m_pile_take k) (m_l_pile_refused_right k))
def b_law_k23 (c_l_rows_right_k23 : List SV → R) (c_l_leaned_right_k23 : List SV → R) (c_l_heaps_right_k23 : List SV → R) (c_l_turns_right : List SV → R) (c_l_piles_right : List SV → R) : FS := sSeq (sSet 1 (vIf (op2 fNe (vVar 0) (vLst [])) (op2 fMod (op2 fIx (vVar 0) (vC (.int 0))) (op2 fPow (vC (.int 10)) (vC (.int 12)))) (vC (.int 0)))) (sSeq (sIf (vOr (vNot (calF 1 c_l_rows_right_k23 [vVar 1])) (vOr (vNot (calF 1 c_l_leaned_right_k23 [vVar 1])) (vNot (calF 1 c_l_heaps_right_k23 [vVar 1])))) (sRet (vC (.bool false))) (sNil)) (sRet (vAnd (calF 1 c_l_turns_right [vVar 1]) (calF 1 c_l_piles_right [vVar 1]))))
def m_law_k23 : Nat → List SV → R
  | 0 => fun _ => .stuck
  | k + 1 => runB 2 (b_law_k23 (m_l_rows_right_k23 k) (m_l_leaned_right_k23 k) (m_l_heaps_right_k23 k) (m_l_turns_right k) (m_l_piles_right k))
inductive Tr where
  | lf
  | nd (l : Tr) (k : Int) (r : Tr)
  deriving DecidableEq
def Tr.d : Tr → D
  | .lf => .tuple []
  | .nd l k r => .tuple [l.d, .int k, r.d]
def Tr.rank : Tr → Int
  | .lf => 0
  | .nd l _ r => 1 + min l.rank r.rank
def Tr.size : Tr → Nat
  | .lf => 0
  | .nd l _ r => 1 + l.size + r.size
def Tr.row : Tr → List Int
  | .lf => []
  | .nd l k r => l.row ++ [k] ++ r.row
def Tr.rw : Tr → Int
  | .lf => 0
  | .nd _ _ r => 1 + r.rw
def geTop (x : Int) : Tr → Bool
  | .lf => true
  | .nd _ k _ => !decide (k < x)
def Tr.heap : Tr → Bool
  | .lf => true
  | .nd l k r => geTop k l && geTop k r && l.heap && r.heap
def Tr.leans : Tr → Bool
  | .lf => true
  | .nd l _ r => decide (r.rank ≤ l.rank) && l.leans && r.leans
theorem Tr.row_length : ∀ t : Tr, t.row.length = t.size
  | .lf => rfl
  | .nd l _ r => by
    simp only [Tr.row, Tr.size, List.length_append, List.length_cons, List.length_nil, l.row_length, r.row_length]; omega
@[simp] theorem fEq_nil (x : D) : fEq x (.tuple []) = rb (PyData.eqv x (.tuple [])) := if_pos (by simp only [PyData.depth, PyData.depthAll]; omega)
@[simp] theorem fNe_nil (x : D) : fNe x (.tuple []) = rb (!PyData.eqv x (.tuple [])) := if_pos (by simp only [PyData.depth, PyData.depthAll]; omega)
@[simp] theorem fEq_nilL (x : D) : fEq x (.list []) = rb (PyData.eqv x (.list [])) := if_pos (by simp only [PyData.depth, PyData.depthAll]; omega)
@[simp] theorem fNe_nilL (x : D) : fNe x (.list []) = rb (!PyData.eqv x (.list [])) := if_pos (by simp only [PyData.depth, PyData.depthAll]; omega)
@[simp] theorem fEq_int (i j : Int) : fEq (.int i) (.int j) = rb (i == j) := by simp [fEq, PyData.depth, PyData.eqv]
@[simp] theorem fNe_int (i j : Int) : fNe (.int i) (.int j) = rb (!(i == j)) := by simp [fNe, PyData.depth, PyData.eqv]
@[simp] theorem eqv_tnil : PyData.eqv (.tuple []) (.tuple []) = true := by simp only [PyData.eqv, PyData.eqvAll]
@[simp] theorem eqv_tcons (x : D) (xs : List D) : PyData.eqv (.tuple (x :: xs)) (.tuple []) = false := by simp only [PyData.eqv, PyData.eqvAll]
@[simp] theorem eqv_lnil : PyData.eqv (.list []) (.list []) = true := by simp only [PyData.eqv, PyData.eqvAll]
@[simp] theorem eqv_lcons (x : D) (xs : List D) : PyData.eqv (.list (x :: xs)) (.list []) = false := by simp only [PyData.eqv, PyData.eqvAll]
@[simp] theorem eqv_lE (xs : List D) : PyData.eqv (.list xs) (.list []) = xs.isEmpty := eqv_nil xs
@[simp] theorem eqv_tE (xs : List D) : PyData.eqv (.tuple xs) (.tuple []) = xs.isEmpty := by cases xs <;> simp
@[simp] theorem eqv_int (i j : Int) : PyData.eqv (.int i) (.int j) = (i == j) := by simp only [PyData.eqv]
theorem sWhile_go {n : Nat} {c : FE} {b : FS} {env e : VEnv} (hc : c env = rb true) (hb : b env = .nx e) : sWhile (n + 1) c b env = sWhile n c b e := by simp only [sWhile, hc, hb]
theorem sWhile_end {n : Nat} {c : FE} {b : FS} {env : VEnv} (hc : c env = rb false) : sWhile (n + 1) c b env = .nx env := by simp only [sWhile, hc]
theorem sWhile_rt {n : Nat} {c : FE} {b : FS} {env : VEnv} {v : SV} (hc : c env = rb true) (hb : b env = .rt v) : sWhile (n + 1) c b env = .rt v := by simp only [sWhile, hc, hb]
theorem forL_go {t : Tg} {b : FS} {d : D} {r : List D} {env env' e : VEnv} (ht : t d env = some env') (hb : b env' = .nx e) : forL t b (d :: r) env = forL t b r e := by simp only [forL, ht, hb]
theorem forL_rt {t : Tg} {b : FS} {d : D} {r : List D} {env env' : VEnv} {v : SV} (ht : t d env = some env') (hb : b env' = .rt v) : forL t b (d :: r) env = .rt v := by simp only [forL, ht, hb]
@[simp] theorem forL_nil {t : Tg} {b : FS} {env : VEnv} : forL t b [] env = .nx env := rfl
@[simp] theorem atI0 (x : D) (xs : List D) : atI (x :: xs) 0 = some x := atI_nat (j := 0) rfl
@[simp] theorem atI1 (x y : D) (xs : List D) : atI (x :: y :: xs) 1 = some y := atI_nat (j := 1) rfl
@[simp] theorem atI2 (x y z : D) (xs : List D) : atI (x :: y :: z :: xs) 2 = some z := atI_nat (j := 2) rfl
theorem k_succ {n k : Nat} (h : n < k) : ∃ j, k = j + 1 := ⟨k - 1, by omega⟩
theorem ite_min (a b : Int) : (if b < a then b else a) = min a b := by omega
@[simp] theorem ite_max (a b : Int) : (if b > a then b else a) = max a b := by omega
@[simp] theorem nl_d : ∀ t : Tr, noList t.d = true
  | .lf => by simp only [Tr.d, noList, noLists]
  | .nd l k r => by simp only [Tr.d, noList, noLists, nl_d l, nl_d r, Bool.and_self]
@[simp] theorem nl_ints : ∀ ns : List Int, noLists (ns.map PyData.int) = true
  | [] => by simp only [List.map_nil, noLists]
  | _ :: r => by simp only [List.map_cons, noLists, noList, nl_ints r, Bool.and_self]
theorem e_rank_of : ∀ (t : Tr) (k : Nat), t.size < k → m_rank_of k [.sh t.d] = ri t.rank
  | .lf, k, h => by
    obtain ⟨k, rfl⟩ := k_succ h
    simp [m_rank_of, b_rank_of, Tr.d, Tr.rank]
  | .nd l x r, k, h => by
    obtain ⟨k, rfl⟩ := k_succ h
    simp only [Tr.size] at h
    have h1 := e_rank_of l k (by omega)
    have h2 := e_rank_of r k (by omega)
    simp [m_rank_of, b_rank_of, Tr.d, h1, h2, Tr.rank, ite_min]
theorem e_size_of : ∀ (t : Tr) (k : Nat), t.size < k → m_size_of k [.sh t.d] = ri t.size
  | .lf, k, h => by
    obtain ⟨k, rfl⟩ := k_succ h
    simp [m_size_of, b_size_of, Tr.d, Tr.size]
  | .nd l x r, k, h => by
    obtain ⟨k, rfl⟩ := k_succ h
    simp only [Tr.size] at h
    have h1 := e_size_of l k (by omega)
    have h2 := e_size_of r k (by omega)
    simp [m_size_of, b_size_of, Tr.d, h1, h2, Tr.size]
theorem e_row_from : ∀ (t : Tr) (k : Nat), t.size < k → k ≤ 1000 → m_row_from k [.sh t.d] = .val (.ow (t.row.map .int))
  | .lf, k, h, _ => by
    obtain ⟨k, rfl⟩ := k_succ h
    simp [m_row_from, b_row_from, Tr.d, Tr.row]
  | .nd l x r, k, h, hk => by
    obtain ⟨k, rfl⟩ := k_succ h
    simp only [Tr.size] at h
    have h1 := e_row_from l k (by omega) (by omega)
    have h2 := e_row_from r k (by omega) (by omega)
    have a1 : l.row.length + 1 ≤ 1000000 := by rw [l.row_length]; omega
    have a2 : l.row.length + 1 + r.row.length ≤ 1000000 := by rw [l.row_length, r.row_length]; omega
    simp [m_row_from, b_row_from, Tr.d, h1, h2, Tr.row, a1, a2]
theorem e_is_key (k : Nat) (i : Int) : m_is_key (k + 1) [.sh (.int i)] = rb true := by simp [m_is_key, b_is_key]
theorem e_is_ordered : ∀ (t : Tr) (k : Nat), t.size < k → m_is_ordered k [.sh t.d] = rb t.heap
  | .lf, k, h => by
    obtain ⟨k, rfl⟩ := k_succ h
    simp [m_is_ordered, b_is_ordered, p_is_ordered_1, Tr.d, Tr.heap]
  | .nd l x r, k, h => by
    obtain ⟨k, rfl⟩ := k_succ h
    simp only [Tr.size] at h
    have h1 := e_is_ordered l k (by omega)
    have h2 := e_is_ordered r k (by omega)
    show _ = rb (geTop x l && geTop x r && l.heap && r.heap)
    generalize l.heap = b1 at h1 ⊢
    generalize r.heap = b2 at h2 ⊢
    cases l with
    | lf =>
      simp only [Tr.d] at h1
      cases r with
      | lf =>
        simp only [Tr.d] at h2
        cases b1 <;> cases b2 <;> simp_all [m_is_ordered, b_is_ordered, p_is_ordered_1, Tr.d, forL, geTop]
      | nd r1 y r2 =>
        simp only [Tr.d] at h2
        cases c : decide (y < x) <;> cases b1 <;> cases b2 <;> simp [m_is_ordered, b_is_ordered, p_is_ordered_1, Tr.d, forL, geTop, h1, h2, c]
    | nd l1 z l2 =>
      simp only [Tr.d] at h1
      cases r with
      | lf =>
        simp only [Tr.d] at h2
        cases c1 : decide (z < x) <;> cases b1 <;> cases b2 <;> simp [m_is_ordered, b_is_ordered, p_is_ordered_1, Tr.d, forL, geTop, c1, h1, h2]
      | nd r1 y r2 =>
        simp only [Tr.d] at h2
        cases c1 : decide (z < x) <;> cases c : decide (y < x) <;> cases b1 <;> cases b2 <;> simp [m_is_ordered, b_is_ordered, p_is_ordered_1, Tr.d, forL, geTop, c1, c, h1, h2]
abbrev bits (x : Int) : Nat := Builtin.Int.intBits x
theorem mulOk_bits {a b : Int} {m n : Nat} (ha : bits a ≤ m) (hb : bits b ≤ n) (h : m + n ≤ 134217728) : mulOk a b = true := mulOk_iff.mpr (IntMulOk.of_le ha hb h)
theorem mulOk_right {a b : Int} (h1 : -(2 ^ 64) < b) (h2 : b < 2 ^ 64) : mulOk a b = true := mulOk_iff.mpr (.of_right (intBits_le_64 h1 h2))
@[simp] theorem atI_lit (xs : List D) (n : Nat) : atI xs (no_index (@OfNat.ofNat Int n _)) = xs[n]? := by
  show atI xs ((n : Nat) : Int) = xs[n]?
  cases h : xs[n]? with
  | some v => exact atI_nat h
  | none =>
    have := List.getElem?_eq_none_iff.mp h
    unfold atI ixN
    rw [if_pos (by omega), if_neg (by omega)]
    rfl
theorem atI_int {xs : List D} {i : Int} (h0 : 0 ≤ i) : atI xs i = xs[i.toNat]? := by
  obtain ⟨n, rfl⟩ := Int.eq_ofNat_of_zero_le h0
  exact atI_lit xs n
theorem rngD_cons (lo : Int) (n : Nat) : rngD lo 1 (n + 1) = .int lo :: rngD (lo + 1) 1 n := by
  unfold rngD
  rw [List.range_succ_eq_map, List.map_cons, List.map_map]
  congr 1
  · simp
  · apply List.map_congr_left
    intro i _
    simp
    omega
def szs (ts : List Tr) : Nat := (ts.map Tr.size).sum
def mss (ts : List Tr) : Nat := (ts.map fun t => 2 * t.size + 1).sum
theorem szs_append (a b : List Tr) : szs (a ++ b) = szs a + szs b := by simp [szs]
theorem mss_append (a b : List Tr) : mss (a ++ b) = mss a + mss b := by simp [mss]
theorem list_last {α : Type} (l : List α) : l = [] ∨ ∃ L b, l = L ++ [b] := by
  rcases List.eq_nil_or_concat l with h | ⟨L, b, h⟩
  · exact .inl h
  · exact .inr ⟨L, b, by rw [h, List.concat_eq_append]⟩
theorem is_form_c (f : List SV → R) (th z w : Option SV) (ts : List D) : p_is_form_1 f [th, some (.ow ts), w, z] = rb (!ts.isEmpty) := by simp [p_is_form_1]
theorem is_form_lf (f : List SV → R) (th z : Option SV) (ts : List D) (c : Int) : p_is_form_2 f [th, some (.ow (ts ++ [.tuple []])), some (.sh (.int c)), z] = .nx [th, some (.ow ts), some (.sh (.int c)), some (.sh (.tuple []))] := by
  simp [p_is_form_2]
theorem is_form_nd (k : Nat) (th z : Option SV) (ts : List D) (c x : Int) (l r : D) (h : c + 1 ≤ 40) (hl : ts.length ≤ 1000) : p_is_form_2 (m_is_key (k + 1)) [th, some (.ow (ts ++ [.tuple [l, .int x, r]])), some (.sh (.int c)), z] = .nx [th, some (.ow (ts ++ [l, r])), some (.sh (.int (c + 1))), some (.sh (.tuple [l, .int x, r]))] := by
  have c1 : ¬ 40 < c + 1 := by omega
  have a1 : ts.length + 2 ≤ 1000000 := by omega
  simp [p_is_form_2, c1, a1, e_is_key]
theorem is_form_go (k : Nat) (th : Option SV) : ∀ (n : Nat) (ts : List Tr) (c : Int) (z : Option SV), mss ts < n → 0 ≤ c → c + szs ts ≤ 40 → ts.length + szs ts ≤ 1000 →
    ∃ z', sWhile n (p_is_form_1 (m_is_key (k + 1))) (p_is_form_2 (m_is_key (k + 1))) [th, some (.ow (ts.map Tr.d)), some (.sh (.int c)), z] = .nx [th, some (.ow []), some (.sh (.int (c + szs ts))), z']
  | 0, _, _, _, h, _, _, _ => by omega
  | n + 1, ts, c, z, h, h1, h2, h3 => by
    rcases list_last ts with rfl | ⟨L, b, rfl⟩
    · exact ⟨z, by rw [sWhile_end (is_form_c _ _ _ _ _)]; simp [szs]⟩
    · rw [mss_append] at h
      rw [szs_append] at h2 h3
      simp only [List.length_append, List.length_cons, List.length_nil] at h3
      rw [List.map_append]
      have cc : p_is_form_1 (m_is_key (k + 1)) [th, some (.ow (L.map Tr.d ++ [b].map Tr.d)), some (.sh (.int c)), z] = rb true := by rw [is_form_c]; simp
      cases b with
      | lf =>
        have hs : szs [Tr.lf] = 0 := rfl
        have hm : mss [Tr.lf] = 1 := rfl
        rw [hm] at h
        rw [hs] at h2 h3
        obtain ⟨z', e⟩ := is_form_go k th n L c (some (.sh (.tuple []))) (by omega) h1 (by omega) (by omega)
        refine ⟨z', ?_⟩
        rw [sWhile_go cc (is_form_lf _ _ _ _ _), e, szs_append, hs]; rfl
      | nd l x r =>
        have hs : szs [Tr.nd l x r] = 1 + l.size + r.size := by simp [szs, Tr.size]
        have hs2 : szs [l, r] = l.size + r.size := by simp [szs]
        have hm : mss [Tr.nd l x r] = 2 * (1 + l.size + r.size) + 1 := by simp [mss, Tr.size]
        have hm2 : mss [l, r] = 2 * l.size + 1 + (2 * r.size + 1) := by simp [mss]
        rw [hm] at h
        rw [hs] at h2 h3
        obtain ⟨z', e⟩ := is_form_go k th n (L ++ [l, r]) (c + 1) (some (.sh (Tr.nd l x r).d)) (by rw [mss_append, hm2]; omega) (by omega) (by rw [szs_append, hs2]; omega) (by rw [szs_append, hs2]; simp; omega)
        refine ⟨z', ?_⟩
        have e1 : c + 1 + ((szs L + (l.size + r.size) : Nat) : Int) = c + ((szs L + (1 + l.size + r.size) : Nat) : Int) := by omega
        rw [szs_append, hs2, e1, List.map_append] at e
        rw [szs_append, hs, sWhile_go cc (is_form_nd k th z _ c x l.d r.d (by omega) (by simp; omega))]
        exact e
theorem e_is_form (t : Tr) (k : Nat) (h : t.size ≤ 40) : m_is_form (k + 2) [.sh t.d] = rb true := by
  have hm : mss [t] = 2 * t.size + 1 := by simp [mss]
  have hs : szs [t] = t.size := by simp [szs]
  obtain ⟨z', e⟩ := is_form_go k (some (.sh t.d)) WF [t] 0 none (by rw [hm]; unfold WF; omega) (by omega) (by rw [hs]; omega) (by rw [hs]; simp; omega)
  simp only [List.map_cons, List.map_nil] at e
  simp [m_is_form, b_is_form, e]
theorem e_check_heap (t : Tr) (k : Nat) (h : t.size ≤ 40) (hk : 42 ≤ k) : m_check_heap (k + 1) [.sh t.d] = if t.heap = true then .val (.sh .none) else .err "BadHeap" := by
  obtain ⟨j, rfl⟩ : ∃ j, k = j + 2 := ⟨k - 2, by omega⟩
  have h1 := e_is_form t j h
  have h2 := e_is_ordered t (j + 2) (by omega)
  cases c : t.heap <;> simp [m_check_heap, b_check_heap, h1, h2, c]
def kn (l : Tr) (x : Int) (r : Tr) : Tr := if l.rank < r.rank then .nd r x l else .nd l x r
def joinL : Tr → Tr → Tr
  | .lf, b => b
  | .nd l x r, .lf => .nd l x r
  | .nd l x r, .nd l' y r' => if y < x then kn l' y (joinL r' (.nd l x r)) else kn l x (joinL r (.nd l' y r'))
termination_by a b => a.size + b.size
decreasing_by all_goals (simp only [Tr.size]; omega)
theorem kn_size (l : Tr) (x : Int) (r : Tr) : (kn l x r).size = 1 + l.size + r.size := by
  unfold kn; split <;> simp only [Tr.size] <;> omega
theorem joinL_size (a b : Tr) : (joinL a b).size = a.size + b.size := by
  fun_induction joinL a b with
  | case1 b => simp [Tr.size]
  | case2 l x r => simp [Tr.size]
  | case3 l x r l' y r' h ih => rw [kn_size, ih]; simp only [Tr.size]; omega
  | case4 l x r l' y r' h ih => rw [kn_size, ih]; simp only [Tr.size]; omega
theorem kn_row (l : Tr) (x : Int) (r : Tr) : (kn l x r).row.Perm (x :: (l.row ++ r.row)) := by
  unfold kn
  split
  · simp only [Tr.row, List.append_assoc, List.singleton_append]
    exact (List.perm_middle).trans ((List.perm_append_comm).cons x)
  · simp only [Tr.row, List.append_assoc, List.singleton_append]
    exact List.perm_middle
theorem nd_row (l : Tr) (x : Int) (r : Tr) : (Tr.nd l x r).row.Perm (x :: (l.row ++ r.row)) := by
  simp only [Tr.row, List.append_assoc, List.singleton_append]
  exact List.perm_middle
theorem joinL_row (a b : Tr) : (joinL a b).row.Perm (a.row ++ b.row) := by
  fun_induction joinL a b with
  | case1 b => simp [Tr.row]
  | case2 l x r => simp [Tr.row]
  | case3 l x r l' y r' h ih =>
    refine (kn_row _ _ _).trans ?_
    refine List.Perm.trans ?_ (List.perm_append_comm)
    refine List.Perm.trans ?_ ((nd_row l' y r').symm.append_right _)
    rw [List.cons_append, List.append_assoc]
    exact (ih.append_left _).cons y
  | case4 l x r l' y r' h ih =>
    refine (kn_row _ _ _).trans ?_
    refine List.Perm.trans ?_ ((nd_row l x r).symm.append_right _)
    rw [List.cons_append, List.append_assoc]
    exact (ih.append_left _).cons x
theorem kn_top (z : Int) (l : Tr) (x : Int) (r : Tr) : geTop z (kn l x r) = !decide (x < z) := by
  unfold kn; split <;> rfl
theorem joinL_top {z : Int} {a b : Tr} (h1 : geTop z a = true) (h2 : geTop z b = true) : geTop z (joinL a b) = true := by
  fun_cases joinL a b with
  | case1 => exact h2
  | case2 => exact h1
  | case3 l x r l' y r' h => rw [kn_top]; exact h2
  | case4 l x r l' y r' h => rw [kn_top]; exact h1
theorem kn_heap {l : Tr} {x : Int} {r : Tr} (h1 : geTop x l = true) (h2 : geTop x r = true) (h3 : l.heap = true) (h4 : r.heap = true) : (kn l x r).heap = true := by
  unfold kn; split <;> simp only [Tr.heap, h1, h2, h3, h4, Bool.and_self]
theorem nd_heap {l : Tr} {x : Int} {r : Tr} : (Tr.nd l x r).heap = true ↔ geTop x l = true ∧ geTop x r = true ∧ l.heap = true ∧ r.heap = true := by
  simp only [Tr.heap, Bool.and_eq_true]
  exact ⟨fun ⟨⟨⟨a, b⟩, c⟩, d⟩ => ⟨a, b, c, d⟩, fun ⟨a, b, c, d⟩ => ⟨⟨⟨a, b⟩, c⟩, d⟩⟩
theorem joinL_heap {a b : Tr} (h1 : a.heap = true) (h2 : b.heap = true) : (joinL a b).heap = true := by
  fun_induction joinL a b with
  | case1 b => exact h2
  | case2 l x r => exact h1
  | case3 l x r l' y r' h ih =>
    obtain ⟨a1, a2, a3, a4⟩ := nd_heap.mp h2
    refine kn_heap a1 (joinL_top a2 ?_) a3 (ih a4 h1)
    simp only [geTop, Bool.not_eq_true', decide_eq_false_iff_not]; omega
  | case4 l x r l' y r' h ih =>
    obtain ⟨a1, a2, a3, a4⟩ := nd_heap.mp h1
    refine kn_heap a1 (joinL_top a2 ?_) a3 (ih a4 h2)
    simp only [geTop, Bool.not_eq_true', decide_eq_false_iff_not]; omega
theorem kn_leans {l : Tr} {x : Int} {r : Tr} (h3 : l.leans = true) (h4 : r.leans = true) : (kn l x r).leans = true := by
  unfold kn
  split
  · rename_i c; simp only [Tr.leans, h3, h4, Bool.and_true, decide_eq_true_eq]; omega
  · rename_i c; simp only [Tr.leans, h3, h4, Bool.and_true, decide_eq_true_eq]; omega
theorem nd_leans {l : Tr} {x : Int} {r : Tr} : (Tr.nd l x r).leans = true ↔ r.rank ≤ l.rank ∧ l.leans = true ∧ r.leans = true := by
  simp only [Tr.leans, Bool.and_eq_true, decide_eq_true_eq]
  exact ⟨fun ⟨⟨a, b⟩, c⟩ => ⟨a, b, c⟩, fun ⟨a, b, c⟩ => ⟨⟨a, b⟩, c⟩⟩
theorem joinL_leans {a b : Tr} (h1 : a.leans = true) (h2 : b.leans = true) : (joinL a b).leans = true := by
  fun_induction joinL a b with
  | case1 b => exact h2
  | case2 l x r => exact h1
  | case3 l x r l' y r' h ih =>
    obtain ⟨a1, a2, a3⟩ := nd_leans.mp h2
    exact kn_leans a2 (ih a3 h1)
  | case4 l x r l' y r' h ih =>
    obtain ⟨a1, a2, a3⟩ := nd_leans.mp h1
    exact kn_leans a2 (ih a3 h2)
theorem rank_nn : ∀ t : Tr, 0 ≤ t.rank
  | .lf => Int.le_refl _
  | .nd l _ r => by
    have h1 := rank_nn l
    have h2 := rank_nn r
    simp only [Tr.rank]; omega
theorem rank_size : ∀ t : Tr, 2 ^ t.rank.toNat ≤ t.size + 1
  | .lf => by simp [Tr.rank, Tr.size]
  | .nd l x r => by
    have h1 := rank_size l
    have h2 := rank_size r
    have n1 := rank_nn l
    have n2 := rank_nn r
    simp only [Tr.rank, Tr.size]
    have e : (1 + min l.rank r.rank).toNat = min l.rank.toNat r.rank.toNat + 1 := by omega
    rw [e, Nat.pow_succ]
    have p1 : 2 ^ min l.rank.toNat r.rank.toNat ≤ 2 ^ l.rank.toNat := Nat.pow_le_pow_right (by decide) (Nat.min_le_left _ _)
    have p2 : 2 ^ min l.rank.toNat r.rank.toNat ≤ 2 ^ r.rank.toNat := Nat.pow_le_pow_right (by decide) (Nat.min_le_right _ _)
    omega
theorem e_leaning_knot (l : Tr) (x : Int) (r : Tr) (k : Nat) (h1 : l.size < k) (h2 : r.size < k) : m_leaning_knot (k + 1) [.sh l.d, .sh (.int x), .sh r.d] = ok (kn l x r).d := by
  have a1 := e_rank_of l k h1
  have a2 := e_rank_of r k h2
  by_cases c : l.rank < r.rank <;> simp [m_leaning_knot, b_leaning_knot, a1, a2, c, kn, Tr.d]
theorem e_joinL (a b : Tr) : ∀ k, a.size + b.size + 2 < k → m_joinL k [.sh a.d, .sh b.d] = ok (joinL a b).d := by
  fun_induction joinL a b with
  | case1 b =>
    intro k h
    obtain ⟨k, rfl⟩ := k_succ h
    cases b <;> simp [m_joinL, b_joinL, Tr.d]
  | case2 l x r =>
    intro k h
    obtain ⟨k, rfl⟩ := k_succ h
    simp [m_joinL, b_joinL, Tr.d]
  | case3 l x r l' y r' c ih =>
    intro k h
    obtain ⟨k, rfl⟩ := k_succ h
    simp only [Tr.size] at h
    have h1 := ih k (by simp only [Tr.size]; omega)
    have h2 : m_leaning_knot k [.sh (l').d, .sh (.int y), .sh (joinL r' (.nd l x r)).d] = ok (kn l' y (joinL r' (.nd l x r))).d := by
      obtain ⟨j, rfl⟩ : ∃ j, k = j + 1 := ⟨k - 1, by omega⟩
      exact e_leaning_knot l' y (joinL r' (.nd l x r)) j (by omega) (by rw [joinL_size]; simp only [Tr.size]; omega)
    simp only [Tr.d] at h1
    simp [m_joinL, b_joinL, Tr.d, c, h1, h2]
  | case4 l x r l' y r' c ih =>
    intro k h
    obtain ⟨k, rfl⟩ := k_succ h
    simp only [Tr.size] at h
    have h1 := ih k (by simp only [Tr.size]; omega)
    have h2 : m_leaning_knot k [.sh (l).d, .sh (.int x), .sh (joinL r (.nd l' y r')).d] = ok (kn l x (joinL r (.nd l' y r'))).d := by
      obtain ⟨j, rfl⟩ : ∃ j, k = j + 1 := ⟨k - 1, by omega⟩
      exact e_leaning_knot l x (joinL r (.nd l' y r')) j (by omega) (by rw [joinL_size]; simp only [Tr.size]; omega)
    simp only [Tr.d] at h1
    simp [m_joinL, b_joinL, Tr.d, c, h1, h2]
theorem lcGo_map {α : Type} {t : Tg} {c e : FE} {env : VEnv} (h g : α → D) : ∀ (xs : List α), (∀ x ∈ xs, ∃ env', t (h x) env = some env' ∧ c env' = rb true ∧ (e env').data = some (g x)) → lcGo t c e env (xs.map h) = some (xs.map g)
  | [], _ => rfl
  | x :: r, H => by
    obtain ⟨env', h1, h2, h3⟩ := H x List.mem_cons_self
    have ih := lcGo_map (t := t) (c := c) (e := e) (env := env) h g r fun y hy => H y (List.mem_cons_of_mem _ hy)
    simp only [List.map_cons, lcGo, h1, h2, h3, ih, Option.map_some]
theorem lcGo_filter {α : Type} {t : Tg} {c e : FE} {env : VEnv} (h g : α → D) (p : α → Bool) : ∀ (xs : List α), (∀ x ∈ xs, ∃ env', t (h x) env = some env' ∧ c env' = rb (p x) ∧ (p x = true → (e env').data = some (g x))) → lcGo t c e env (xs.map h) = some ((xs.filter p).map g)
  | [], _ => rfl
  | x :: r, H => by
    obtain ⟨env', h1, h2, h3⟩ := H x List.mem_cons_self
    have ih := lcGo_filter (t := t) (c := c) (e := e) (env := env) h g p r fun y hy => H y (List.mem_cons_of_mem _ hy)
    cases q : p x with
    | true =>
      rw [q] at h2
      simp only [List.map_cons, lcGo, h1, h2, h3 q, ih, Option.map_some, List.filter_cons, q, if_pos]
    | false =>
      rw [q] at h2
      simp only [List.map_cons, lcGo, h1, h2, ih, List.filter_cons, q, Bool.false_eq_true, if_false]
theorem cutD_lo (xs : List D) (n : Nat) : cutD xs (some (n : Int)) none = xs.drop n := by
  unfold cutD
  rw [HT.sIx_nat, HT.sIx_none]
  by_cases h : n ≤ xs.length
  · rw [Nat.min_eq_left h]
    exact List.take_of_length_le (by rw [List.length_drop]; exact Nat.le_refl _)
  · rw [Nat.min_eq_right (by omega), List.drop_length, List.drop_eq_nil_of_le (by omega)]; simp
theorem cutD_hi (xs : List D) (n : Nat) : cutD xs none (some (n : Int)) = xs.take n := by
  unfold cutD
  rw [HT.sIx_nat, HT.sIx_none, List.drop_zero, Nat.sub_zero]
  by_cases h : n ≤ xs.length
  · rw [Nat.min_eq_left h]
  · rw [Nat.min_eq_right (by omega), List.take_of_length_le (Nat.le_refl _), List.take_of_length_le (by omega)]
@[simp] theorem cutD_loL (xs : List D) (n : Nat) : cutD xs (some (no_index (@OfNat.ofNat Int n _))) none = xs.drop n := cutD_lo xs n
@[simp] theorem cutD_hiL (xs : List D) (n : Nat) : cutD xs none (some (no_index (@OfNat.ofNat Int n _))) = xs.take n := cutD_hi xs n
theorem eqvAll_ints : ∀ a b : List Int, PyData.eqvAll (a.map .int) (b.map .int) = (a == b)
  | [], [] => rfl
  | [], _ :: _ => rfl
  | _ :: _, [] => rfl
  | x :: a, y :: b => by
    simp only [List.map_cons, PyData.eqvAll, eqv_int, eqvAll_ints a b]
    rfl
theorem depth_ints : ∀ a : List Int, PyData.depthAll (a.map .int) = 0
  | [] => rfl
  | _ :: a => by simp only [List.map_cons, PyData.depthAll, PyData.depth, depth_ints a]; rfl
@[simp] theorem fEq_ints (a b : List Int) : fEq (.list (a.map .int)) (.list (b.map .int)) = rb (a == b) := by
  unfold fEq
  rw [if_pos (by simp only [PyData.depth, depth_ints]; omega)]
  simp only [PyData.eqv, eqvAll_ints]
@[simp] theorem fNe_ints (a b : List Int) : fNe (.list (a.map .int)) (.list (b.map .int)) = rb (!(a == b)) := by
  unfold fNe
  rw [if_pos (by simp only [PyData.depth, depth_ints]; omega)]
  simp only [PyData.eqv, eqvAll_ints]
theorem lc_ints {t : Tg} {c e : FE} {env : VEnv} (p : Int → Bool) (xs : List Int) (H : ∀ x ∈ xs, ∃ env', t (.int x) env = some env' ∧ c env' = rb true ∧ (e env').data = some (.bool (p x))) : lcGo t c e env (xs.map .int) = some ((xs.map p).map .bool) := by
  rw [lcGo_map (t := t) (c := c) (e := e) (env := env) PyData.int (fun x => .bool (p x)) xs H, List.map_map]; rfl
theorem e_check_keys (r : List Int) (k : Nat) (h : r.length ≤ 40) : m_check_keys (k + 2) [.sh (.list (r.map .int))] = .val (.sh .none) := by
  have e := lc_ints (t := tgN 1) (c := vC (.bool true)) (e := calF 1 (m_is_key (k + 1)) [vVar 1]) (env := [some (.sh (.list (r.map .int))), none]) (fun _ => true) r fun x _ => ⟨_, rfl, rfl, by simp [e_is_key]⟩
  have h1 : r.length ≤ 1000000 := by omega
  have h2 : ¬ (40 : Int) < r.length := by omega
  have h3 : (r.all fun _ => true) = true := by simp only [List.all_eq_true, implies_true]
  simp [m_check_keys, b_check_keys, e, h1, h2, blsOf_map, -List.map_map, h3]
def meldQ (f : Tr → Tr → Tr) : Nat → List Tr → Tr
  | n + 1, a :: b :: r => meldQ f n (r ++ [f a b])
  | _, t :: _ => t
  | _, [] => .lf
theorem meldQ_one (f : Tr → Tr → Tr) (n : Nat) (t : Tr) : meldQ f n [t] = t := by cases n <;> rfl
theorem meld_go (f : Tr → Tr → Tr) {c : FE} {b : FS} (mk : List Tr → VEnv) (P : List Tr → Prop) (hc : ∀ ts, c (mk ts) = rb (decide (1 < ts.length)))
    (hb : ∀ x y r, P (x :: y :: r) → b (mk (x :: y :: r)) = .nx (mk (r ++ [f x y])) ∧ P (r ++ [f x y])) :
    ∀ (n : Nat) (ts : List Tr), ts ≠ [] → ts.length ≤ n + 1 → P ts → sWhile (n + 1) c b (mk ts) = .nx (mk [meldQ f n ts])
  | n, [], h, _, _ => absurd rfl h
  | n, [t], _, _, _ => by
    rw [meldQ_one]; exact sWhile_end ((hc _).trans (by rfl))
  | 0, x :: y :: r, _, h, _ => absurd h (by simp only [List.length_cons]; omega)
  | n + 1, x :: y :: r, _, h, p => by
    obtain ⟨h1, h2⟩ := hb x y r p
    rw [sWhile_go ((hc _).trans (by simp)) h1]
    exact meld_go f mk P hc hb n _ (by simp) (by simp only [List.length_append, List.length_cons, List.length_nil] at *; omega) h2
theorem meldQ_all {f : Tr → Tr → Tr} {p : Tr → Prop} (hf : ∀ a b, p a → p b → p (f a b)) (hl : p .lf) : ∀ (n : Nat) (ts : List Tr), (∀ t ∈ ts, p t) → p (meldQ f n ts)
  | 0, [], _ => hl
  | n + 1, [], _ => hl
  | 0, t :: _, h => h t List.mem_cons_self
  | n + 1, [t], h => h t List.mem_cons_self
  | n + 1, a :: b :: r, h => by
    refine meldQ_all hf hl n (r ++ [f a b]) fun t ht => ?_
    rcases List.mem_append.mp ht with g | g
    · exact h t (List.mem_cons_of_mem _ (List.mem_cons_of_mem _ g))
    · rw [List.mem_singleton.mp g]; exact hf a b (h a List.mem_cons_self) (h b (List.mem_cons_of_mem _ List.mem_cons_self))
theorem meldQ_row {f : Tr → Tr → Tr} (hf : ∀ a b, (f a b).row.Perm (a.row ++ b.row)) : ∀ (n : Nat) (ts : List Tr), ts.length ≤ n + 1 → (meldQ f n ts).row.Perm (ts.flatMap Tr.row)
  | 0, [], _ => .refl _
  | n + 1, [], _ => .refl _
  | 0, [t], h => by simp [meldQ]
  | 0, _ :: _ :: _, h => absurd h (by simp)
  | n + 1, [t], h => by simp [meldQ]
  | n + 1, a :: b :: r, h => by
    refine (meldQ_row hf n (r ++ [f a b]) (by simp only [List.length_append, List.length_cons, List.length_nil] at *; omega)).trans ?_
    simp only [List.flatMap_append, List.flatMap_cons, List.flatMap_nil, List.append_nil]
    refine (List.perm_append_comm).trans ?_
    rw [← List.append_assoc]
    exact (hf a b).append_right _
def one (x : Int) : Tr := .nd .lf x .lf
theorem one_rows : ∀ r : List Int, (r.map one).flatMap Tr.row = r
  | [] => rfl
  | x :: r => by simp only [List.map_cons, List.flatMap_cons, one_rows r]; rfl
theorem one_szs : ∀ r : List Int, szs (r.map one) = r.length
  | [] => rfl
  | x :: r => by
    have h := one_szs r
    simp only [szs, List.map_cons, List.sum_cons, List.length_cons] at *
    rw [h]; simp only [one, Tr.size]; omega
def leanOf (r : List Int) : Tr := meldQ joinL 299 (r.map one)
theorem leanOf_heap (r : List Int) : (leanOf r).heap = true := meldQ_all (p := fun t => t.heap = true) (fun _ _ => joinL_heap) rfl _ _ fun t h => by
  obtain ⟨x, _, rfl⟩ := List.mem_map.mp h; rfl
theorem leanOf_leans (r : List Int) : (leanOf r).leans = true := meldQ_all (p := fun t => t.leans = true) (fun _ _ => joinL_leans) rfl _ _ fun t h => by
  obtain ⟨x, _, rfl⟩ := List.mem_map.mp h; rfl
theorem leanOf_row {r : List Int} (h : r.length ≤ 300) : (leanOf r).row.Perm r := by
  have := meldQ_row joinL_row 299 (r.map one) (by rw [List.length_map]; omega)
  rwa [one_rows] at this
theorem leanOf_size {r : List Int} (h : r.length ≤ 300) : (leanOf r).size = r.length := by
  rw [← Tr.row_length]; exact (leanOf_row h).length_eq
theorem leanOf_nil : leanOf [] = .lf := rfl
theorem e_lean_of (r : List Int) (k : Nat) (h : r.length ≤ 40) (hk : 50 ≤ k) : m_lean_of (k + 1) [.sh (.list (r.map .int))] = ok (leanOf r).d := by
  have h0 : m_check_keys k [.sh (.list (r.map .int))] = .val (.sh .none) := by
    obtain ⟨j, rfl⟩ : ∃ j, k = j + 2 := ⟨k - 2, by omega⟩
    exact e_check_keys r j h
  have e := lcGo_map (t := tgN 2) (c := vC (.bool true)) (e := vTup [vTup [], vVar 2, vTup []]) (env := [some (.sh (.list (r.map .int))), none, none]) PyData.int (fun x => (one x).d) r fun x _ => ⟨_, rfl, rfl, by simp [one, Tr.d]⟩
  have e2 : r.map (fun x => (one x).d) = (r.map one).map Tr.d := by rw [List.map_map]; rfl
  rw [e2] at e
  rcases List.eq_nil_or_concat r with rfl | ⟨r', x, hr⟩
  · simp only [List.map_nil] at h0 e
    have g : sWhile 300 (p_lean_of_1 (m_check_keys k) (m_joinL k)) (p_lean_of_2 (m_check_keys k) (m_joinL k)) [some (.sh (.list [])), some (.sh (.list [])), none] = .nx [some (.sh (.list [])), some (.sh (.list [])), none] := sWhile_end (by simp [p_lean_of_1])
    simp [m_lean_of, b_lean_of, h0, WF, leanOf_nil, Tr.d, e, g]
  have hne : r.map one ≠ [] := by rw [hr]; simp
  have g := meld_go joinL (c := p_lean_of_1 (m_check_keys k) (m_joinL k)) (b := p_lean_of_2 (m_check_keys k) (m_joinL k)) (fun ts => [some (.sh (.list (r.map .int))), some (.sh (.list (ts.map Tr.d))), none]) (fun ts => szs ts ≤ 40 ∧ ts.length ≤ 40)
    (fun ts => by simp [p_lean_of_1]; omega) (fun a b q p => by
      obtain ⟨p1, p2⟩ := p
      simp only [szs, List.map_cons, List.sum_cons, List.length_cons] at p1 p2
      have hj := e_joinL a b k (by omega)
      have hl : q.length + 1 ≤ 1000000 := by omega
      refine ⟨by simp [p_lean_of_2, hj, hl], ?_, ?_⟩
      · simp only [szs, List.map_append, List.sum_append, List.map_cons, List.map_nil, List.sum_cons, List.sum_nil, joinL_size]; omega
      · simp only [List.length_append, List.length_cons, List.length_nil]; omega) 299 (r.map one) hne (by rw [List.length_map]; omega) ⟨by rw [one_szs]; exact h, by rw [List.length_map]; exact h⟩
  rw [show (299 + 1 : Nat) = 300 from rfl] at g
  have hL : r.length ≤ 1000000 := by omega
  simp [m_lean_of, b_lean_of, h0, e, WF, g, hL, leanOf, -List.map_map]
theorem e_rank (t : Tr) (k : Nat) (h : t.size ≤ 40) (hk : 50 ≤ k) (hh : t.heap = true) : m_rank (k + 1) [.sh t.d] = ri t.rank := by
  obtain ⟨j, rfl⟩ : ∃ j, k = j + 1 := ⟨k - 1, by omega⟩
  have h1 := e_check_heap t j h (by omega)
  rw [if_pos hh] at h1
  have h2 := e_rank_of t (j + 1) (by omega)
  simp [m_rank, b_rank, h1, h2]
def slB : Tr → Bool
  | .lf => false
  | .nd l _ r => decide (l.rank < r.rank)
@[simp] theorem intsOf_mapS (ns : List Int) : intsOf (ns.map PyData.int) = some ns := intsOf_map ns
@[simp] theorem intsOf_app (a b : List Int) : intsOf (a.map PyData.int ++ b.map PyData.int) = some (a ++ b) := by rw [← List.map_append, intsOf_map]
def least (x : Int) (r : List Int) : Int := r.foldl min x
def cutAt (x : Int) (r : List Int) : Nat := (idxOf (x :: r) (least x r)).getD 0
theorem idxOf_mem : ∀ {ns : List Int} {y : Int}, y ∈ ns → ∃ j, idxOf ns y = some j
  | [], _, h => absurd h List.not_mem_nil
  | x :: r, y, h => by
    unfold idxOf
    by_cases c : x = y
    · exact ⟨0, if_pos c⟩
    · obtain ⟨j, hj⟩ := idxOf_mem (ns := r) ((List.mem_cons.mp h).resolve_left fun e => c e.symm)
      exact ⟨j + 1, by rw [if_neg c, hj]; rfl⟩
theorem least_mem (x : Int) (r : List Int) : least x r ∈ x :: r := by
  rcases (foldmin_spec r x).1 with h | h
  · unfold least; rw [h]; exact List.mem_cons_self
  · exact List.mem_cons_of_mem _ h
theorem least_le (x : Int) (r : List Int) : ∀ y ∈ x :: r, least x r ≤ y := fun y h => by
  rcases List.mem_cons.mp h with rfl | h
  · exact (foldmin_spec r y).2.1
  · exact (foldmin_spec r x).2.2 y h
theorem cutAt_spec (x : Int) (r : List Int) : idxOf (x :: r) (least x r) = some (cutAt x r) ∧ (x :: r)[cutAt x r]? = some (least x r) := by
  obtain ⟨j, hj⟩ := idxOf_mem (least_mem x r)
  have e : cutAt x r = j := by unfold cutAt; rw [hj]; rfl
  rw [e]; exact ⟨hj, (idxOf_spec hj).1⟩
theorem cutAt_lt (x : Int) (r : List Int) : cutAt x r < (x :: r).length := by
  have h := (cutAt_spec x r).2
  exact (List.getElem?_eq_some_iff.mp h).1
def hOf : List Int → Tr
  | [] => .lf
  | x :: r => .nd (hOf ((x :: r).take (cutAt x r))) (least x r) (hOf ((x :: r).drop (cutAt x r + 1)))
termination_by r => r.length
decreasing_by
  · have := cutAt_lt x r
    simp only [List.length_take, List.length_cons] at *; omega
  · have := cutAt_lt x r
    simp only [List.length_drop, List.length_cons] at *; omega
def Tr.lean : Tr → Tr
  | .lf => .lf
  | .nd l x r => kn l.lean x r.lean
theorem lean_size : ∀ t : Tr, t.lean.size = t.size
  | .lf => rfl
  | .nd l x r => by simp only [Tr.lean, kn_size, lean_size l, lean_size r, Tr.size]
theorem lean_top {z : Int} : ∀ {t : Tr}, geTop z t = true → geTop z t.lean = true
  | .lf, _ => rfl
  | .nd l x r, h => by simp only [Tr.lean, kn_top]; exact h
theorem lean_heap : ∀ {t : Tr}, t.heap = true → t.lean.heap = true
  | .lf, _ => rfl
  | .nd l x r, h => by
    obtain ⟨a1, a2, a3, a4⟩ := nd_heap.mp h
    exact kn_heap (lean_top a1) (lean_top a2) (lean_heap a3) (lean_heap a4)
theorem lean_leans : ∀ t : Tr, t.lean.leans = true
  | .lf => rfl
  | .nd l x r => kn_leans (lean_leans l) (lean_leans r)
def slantL : Tr → List D → List D
  | .lf, _ => []
  | .nd l x r, w => (if l.rank < r.rank then [.list w] else []) ++ slantL l (w ++ [.str "left"]) ++ slantL r (w ++ [.str "right"])
theorem slantL_len : ∀ (t : Tr) (w : List D), (slantL t w).length ≤ t.size
  | .lf, _ => Nat.le_refl _
  | .nd l x r, w => by
    have h1 := slantL_len l (w ++ [.str "left"])
    have h2 := slantL_len r (w ++ [.str "right"])
    simp only [slantL, List.length_append, Tr.size]
    split <;> simp only [List.length_cons, List.length_nil] <;> omega
theorem isEmp_app {α : Type} (a b : List α) : (a ++ b).isEmpty = (a.isEmpty && b.isEmpty) := by cases a <;> rfl
theorem slantL_nil : ∀ (t : Tr) (w : List D), (slantL t w).isEmpty = t.leans
  | .lf, _ => rfl
  | .nd l x r, w => by
    have h1 := slantL_nil l (w ++ [.str "left"])
    have h2 := slantL_nil r (w ++ [.str "right"])
    simp only [slantL, isEmp_app, h1, h2, Tr.leans]
    by_cases c : l.rank < r.rank
    · rw [if_pos c, decide_eq_false (by omega)]; rfl
    · rw [if_neg c, decide_eq_true (by omega)]; rfl
theorem e_slants (l : Tr) (x : Int) (r : Tr) (k : Nat) (h : l.size + r.size < k) : m_slants (k + 1) [.sh (.tuple [l.d, .int x, r.d])] = rb (decide (l.rank < r.rank)) := by
  have h1 := e_rank_of l k (by omega)
  have h2 := e_rank_of r k (by omega)
  simp [m_slants, b_slants, h1, h2]
theorem e_slanting : ∀ (t : Tr) (w : List D) (k : Nat), t.size + 1 < k → k + w.length ≤ 1000 → m_slanting k [.sh t.d, .sh (.list w)] = .val (.ow (slantL t w))
  | .lf, w, k, h, _ => by
    obtain ⟨k, rfl⟩ := k_succ h
    simp [m_slanting, b_slanting, Tr.d, slantL]
  | .nd l x r, w, k, h, hk => by
    obtain ⟨k, rfl⟩ := k_succ h
    simp only [Tr.size] at h
    have h1 := e_slanting l (w ++ [.str "left"]) k (by omega) (by simp only [List.length_append, List.length_cons, List.length_nil] <;> omega)
    have h2 := e_slanting r (w ++ [.str "right"]) k (by omega) (by simp only [List.length_append, List.length_cons, List.length_nil] <;> omega)
    have h3 : m_slants k [.sh (.tuple [l.d, .int x, r.d])] = rb (decide (l.rank < r.rank)) := by
      obtain ⟨j, rfl⟩ : ∃ j, k = j + 1 := ⟨k - 1, by omega⟩
      exact e_slants l x r j (by omega)
    have b1 := slantL_len l (w ++ [.str "left"])
    have b2 := slantL_len r (w ++ [.str "right"])
    have a0 : w.length + 1 ≤ 1000000 := by omega
    have a1 : (slantL l (w ++ [.str "left"])).length ≤ 1000000 := by omega
    have a2 : 1 + (slantL l (w ++ [.str "left"])).length ≤ 1000000 := by omega
    have a3 : (slantL l (w ++ [.str "left"])).length + (slantL r (w ++ [.str "right"])).length ≤ 1000000 := by omega
    have a4 : (slantL l (w ++ [.str "left"])).length + 1 + (slantL r (w ++ [.str "right"])).length ≤ 1000000 := by omega
    by_cases c : l.rank < r.rank <;> simp [m_slanting, b_slanting, Tr.d, h1, h2, h3, c, slantL, a0, a1, a2, a3, a4]
theorem e_check_leaning (t : Tr) (k : Nat) (h : t.size + 1 < k) (hk : k ≤ 1000) : m_check_leaning (k + 1) [.sh t.d] = if t.leans = true then .val (.sh .none) else .err "NotLeaning" := by
  have h1 := e_slanting t [] k h (by simpa using hk)
  have h2 := slantL_nil t []
  cases c : t.leans with
  | true => rw [c] at h2; simp [m_check_leaning, b_check_leaning, h1, h2]
  | false => rw [c] at h2; simp [m_check_leaning, b_check_leaning, h1, h2]
theorem e_check_both (a b : Tr) (k : Nat) (h : a.size + b.size ≤ 40) (hk : 50 ≤ k) (h1 : a.heap = true) (h2 : b.heap = true) : m_check_both (k + 1) [.sh a.d, .sh b.d] = .val (.sh .none) := by
  have a1 : m_check_heap k [.sh a.d] = .val (.sh .none) := by
    obtain ⟨j, rfl⟩ : ∃ j, k = j + 1 := ⟨k - 1, by omega⟩
    rw [e_check_heap a j (by omega) (by omega), if_pos h1]
  have a2 : m_check_heap k [.sh b.d] = .val (.sh .none) := by
    obtain ⟨j, rfl⟩ : ∃ j, k = j + 1 := ⟨k - 1, by omega⟩
    rw [e_check_heap b j (by omega) (by omega), if_pos h2]
  have a3 := e_size_of a k (by omega)
  have a4 := e_size_of b k (by omega)
  have a5 : ¬ (40 : Int) < (a.size : Int) + b.size := by omega
  simp [m_check_both, b_check_both, a1, a2, a3, a4, a5]
theorem e_lean_join (a b : Tr) (k : Nat) (h : a.size + b.size ≤ 40) (hk : 60 ≤ k) (hk2 : k ≤ 1000) (h1 : a.heap = true) (h2 : b.heap = true) :
    m_lean_join (k + 1) [.sh a.d, .sh b.d] = if (a.leans && b.leans) = true then ok (joinL a b).d else .err "NotLeaning" := by
  have a1 : m_check_both k [.sh a.d, .sh b.d] = .val (.sh .none) := by
    obtain ⟨j, rfl⟩ : ∃ j, k = j + 1 := ⟨k - 1, by omega⟩
    exact e_check_both a b j h (by omega) h1 h2
  have a2 : m_check_leaning k [.sh a.d] = if a.leans = true then .val (.sh .none) else .err "NotLeaning" := by
    obtain ⟨j, rfl⟩ : ∃ j, k = j + 1 := ⟨k - 1, by omega⟩
    exact e_check_leaning a j (by omega) (by omega)
  have a3 : m_check_leaning k [.sh b.d] = if b.leans = true then .val (.sh .none) else .err "NotLeaning" := by
    obtain ⟨j, rfl⟩ : ∃ j, k = j + 1 := ⟨k - 1, by omega⟩
    exact e_check_leaning b j (by omega) (by omega)
  have a4 := e_joinL a b k (by omega)
  cases c1 : a.leans <;> cases c2 : b.leans <;> simp [m_lean_join, b_lean_join, a1, a2, a3, a4, c1, c2]
@[simp] theorem fEq_bls (a b : List Bool) : fEq (.list (a.map .bool)) (.list (b.map .bool)) = rb (a == b) := by
  have d : ∀ a : List Bool, PyData.depthAll (a.map .bool) = 0 := fun a => by
    induction a with
    | nil => rfl
    | cons x r ih => simp only [List.map_cons, PyData.depthAll, PyData.depth, ih]; rfl
  have q : ∀ a b : List Bool, PyData.eqvAll (a.map .bool) (b.map .bool) = (a == b) := fun a => by
    induction a with
    | nil => intro b; cases b <;> rfl
    | cons x r ih =>
      intro b
      cases b with
      | nil => rfl
      | cons y s =>
        simp only [List.map_cons, PyData.eqvAll, ih]
        cases x <;> cases y <;> simp [PyData.eqv]
  unfold fEq
  rw [if_pos (by simp only [PyData.depth, d]; omega)]
  simp only [PyData.eqv, q]
theorem E_check_heap (t : Tr) (k : Nat) (h : t.size ≤ 40) (hk : 50 ≤ k) : m_check_heap k [.sh t.d] = if t.heap = true then .val (.sh .none) else .err "BadHeap" := by
  obtain ⟨j, rfl⟩ : ∃ j, k = j + 1 := ⟨k - 1, by omega⟩
  exact e_check_heap t j h (by omega)
theorem E_lean_of (r : List Int) (k : Nat) (h : r.length ≤ 40) (hk : 60 ≤ k) : m_lean_of k [.sh (.list (r.map .int))] = ok (leanOf r).d := by
  obtain ⟨j, rfl⟩ : ∃ j, k = j + 1 := ⟨k - 1, by omega⟩
  exact e_lean_of r j h (by omega)
theorem E_rank (t : Tr) (k : Nat) (h : t.size ≤ 40) (hk : 60 ≤ k) (hh : t.heap = true) : m_rank k [.sh t.d] = ri t.rank := by
  obtain ⟨j, rfl⟩ : ∃ j, k = j + 1 := ⟨k - 1, by omega⟩
  exact e_rank t j h (by omega) hh
theorem E_check_leaning (t : Tr) (k : Nat) (h : t.size + 2 < k) (hk : k ≤ 1001) : m_check_leaning k [.sh t.d] = if t.leans = true then .val (.sh .none) else .err "NotLeaning" := by
  obtain ⟨j, rfl⟩ : ∃ j, k = j + 1 := ⟨k - 1, by omega⟩
  exact e_check_leaning t j (by omega) (by omega)
theorem E_lean_join (a b : Tr) (k : Nat) (h : a.size + b.size ≤ 40) (hk : 65 ≤ k) (hk2 : k ≤ 1001) (h1 : a.heap = true) (h2 : b.heap = true) :
    m_lean_join k [.sh a.d, .sh b.d] = if (a.leans && b.leans) = true then ok (joinL a b).d else .err "NotLeaning" := by
  obtain ⟨j, rfl⟩ : ∃ j, k = j + 1 := ⟨k - 1, by omega⟩
  exact e_lean_join a b j h (by omega) (by omega) h1 h2
def PairOk (a b : Tr) : Prop := a.size + b.size ≤ 40 ∧ a.heap = true ∧ b.heap = true
theorem heap_le : ∀ {t : Tr} {x : Int}, geTop x t = true → t.heap = true → ∀ y ∈ t.row, x ≤ y
  | .lf, _, _, _, y, h => absurd h List.not_mem_nil
  | .nd l k r, x, g, h, y, hy => by
    obtain ⟨a1, a2, a3, a4⟩ := nd_heap.mp h
    have gx : x ≤ k := by simp only [geTop, Bool.not_eq_true', decide_eq_false_iff_not] at g; omega
    simp only [Tr.row, List.mem_append, List.mem_singleton] at hy
    rcases hy with (hy | rfl) | hy
    · exact Int.le_trans gx (heap_le a1 a3 y hy)
    · exact gx
    · exact Int.le_trans gx (heap_le a2 a4 y hy)
theorem srt_heap {l : Tr} {x : Int} {r : Tr} (h : (Tr.nd l x r).heap = true) : srt (Tr.nd l x r).row = x :: srt (l.row ++ r.row) := by
  obtain ⟨a1, a2, a3, a4⟩ := nd_heap.mp h
  refine (srt_of (((srt_perm _).cons x).trans (nd_row l x r).symm) ?_).symm
  refine List.pairwise_cons.mpr ⟨fun y hy => ?_, srt_le _⟩
  rcases List.mem_append.mp ((srt_perm _).mem_iff.mp hy) with q | q
  · exact heap_le a1 a3 y q
  · exact heap_le a2 a4 y q
def takeL : Tr → R
  | .lf => .err "Empty"
  | .nd l x r => ok (.tuple [.int x, (joinL l r).d])
theorem E_lean_take (t : Tr) (k : Nat) (h : t.size ≤ 40) (hk : 70 ≤ k) (hk2 : k ≤ 1000) (hh : t.heap = true) : m_lean_take k [.sh t.d] = if t.leans = true then takeL t else .err "NotLeaning" := by
  obtain ⟨k, rfl⟩ := k_succ (n := 0) (k := k) (by omega)
  have a1 := E_check_heap t k h (by omega)
  rw [if_pos hh] at a1
  have a2 := E_check_leaning t k (by omega) (by omega)
  cases c : t.leans with
  | false => rw [c] at a2; simp at a2; simp [m_lean_take, b_lean_take, a1, a2]
  | true =>
    rw [c] at a2
    simp only [if_true] at a2
    cases t with
    | lf => simp only [Tr.d] at *; simp [m_lean_take, b_lean_take, a1, a2, takeL]
    | nd l x r =>
      simp only [Tr.size] at h
      have a3 := e_joinL l r k (by omega)
      simp only [Tr.d] at a1 a2
      simp [m_lean_take, b_lean_take, Tr.d, a1, a2, a3, takeL]
theorem depth_d : ∀ t : Tr, t.d.depth ≤ t.size + 1
  | .lf => by simp only [Tr.d, PyData.depth, PyData.depthAll, Tr.size]; omega
  | .nd l x r => by
    have h1 := depth_d l
    have h2 := depth_d r
    simp only [Tr.d, PyData.depth, PyData.depthAll, Tr.size]; omega
theorem eqv_d : ∀ a b : Tr, PyData.eqv a.d b.d = decide (a = b)
  | .lf, .lf => by simp [Tr.d]
  | .lf, .nd _ _ _ => by simp [Tr.d, PyData.eqv, PyData.eqvAll]
  | .nd _ _ _, .lf => by simp [Tr.d, PyData.eqv, PyData.eqvAll]
  | .nd l x r, .nd l' y r' => by
    simp only [Tr.d, PyData.eqv, PyData.eqvAll, eqv_d l l', eqv_d r r', Tr.nd.injEq, Bool.and_true, Bool.decide_and]
    rw [show (x == y) = decide (x = y) from rfl]
theorem fEq_d {a b : Tr} (h : a.size ≤ 90) : fEq a.d b.d = rb (decide (a = b)) := by
  have := depth_d a
  unfold fEq; rw [if_pos (by omega), eqv_d]
theorem fNe_d {a b : Tr} (h : a.size ≤ 90) : fNe a.d b.d = rb (!decide (a = b)) := by
  have := depth_d a
  unfold fNe; rw [if_pos (by omega), eqv_d]
theorem fNe_dn {a b : Tr} {i j : Int} (h : a.size ≤ 90) : fNe (.tuple [a.d, .int i]) (.tuple [b.d, .int j]) = rb (!(decide (a = b) && decide (i = j))) := by
  have := depth_d a
  unfold fNe
  rw [if_pos (by simp only [PyData.depth, PyData.depthAll]; omega)]
  simp only [PyData.eqv, PyData.eqvAll, eqv_d, Bool.and_true]
  rw [show (i == j) = decide (i = j) from rfl]
@[simp] theorem fNe_str (a b : Str) : fNe (.str a) (.str b) = rb (!(a == b)) := by simp [fNe, PyData.depth, PyData.eqv]
@[simp] theorem fEq_str (a b : Str) : fEq (.str a) (.str b) = rb (a == b) := by simp [fEq, PyData.depth, PyData.eqv]
def joinT : Tr → Tr → Tr × Nat
  | .lf, b => (b, 0)
  | .nd l x r, .lf => (.nd l x r, 0)
  | .nd l x r, .nd l' y r' => if y < x then (.nd (joinT r' (.nd l x r)).1 y l', (joinT r' (.nd l x r)).2 + 1) else (.nd (joinT r (.nd l' y r')).1 x l, (joinT r (.nd l' y r')).2 + 1)
termination_by a b => a.size + b.size
decreasing_by all_goals (simp only [Tr.size]; omega)
def Tr.hv : Tr → Nat
  | .lf => 0
  | .nd l _ r => (if l.size < r.size then 1 else 0) + l.hv + r.hv
def Tr.lt : Tr → Nat
  | .lf => 0
  | .nd l _ r => (if l.size < r.size then 0 else 1) + r.lt
def pairD (p : Tr × Nat) : D := .tuple [p.1.d, .int (p.2 : Nat)]
theorem e_joinT (a b : Tr) : ∀ k, a.size + b.size < k → m_joinT k [.sh a.d, .sh b.d] = ok (pairD (joinT a b)) := by
  fun_induction joinT a b with
  | case1 b =>
    intro k h
    obtain ⟨k, rfl⟩ := k_succ h
    cases b <;> simp [m_joinT, b_joinT, Tr.d, pairD]
  | case2 l x r =>
    intro k h
    obtain ⟨k, rfl⟩ := k_succ h
    simp [m_joinT, b_joinT, Tr.d, pairD]
  | case3 l x r l' y r' c ih =>
    intro k h
    obtain ⟨k, rfl⟩ := k_succ h
    simp only [Tr.size] at h
    have h1 := ih k (by simp only [Tr.size]; omega)
    simp only [Tr.d] at h1
    generalize joinT r' (.nd l x r) = q at *
    simp [m_joinT, b_joinT, Tr.d, c, h1, pairD]
  | case4 l x r l' y r' c ih =>
    intro k h
    obtain ⟨k, rfl⟩ := k_succ h
    simp only [Tr.size] at h
    have h1 := ih k (by simp only [Tr.size]; omega)
    simp only [Tr.d] at h1
    generalize joinT r (.nd l' y r') = q at *
    simp [m_joinT, b_joinT, Tr.d, c, h1, pairD]
theorem E_check_both (a b : Tr) (k : Nat) (h : a.size + b.size ≤ 40) (hk : 60 ≤ k) (h1 : a.heap = true) (h2 : b.heap = true) : m_check_both k [.sh a.d, .sh b.d] = .val (.sh .none) := by
  obtain ⟨j, rfl⟩ : ∃ j, k = j + 1 := ⟨k - 1, by omega⟩
  exact e_check_both a b j h (by omega) h1 h2
theorem E_turn_join (a b : Tr) (k : Nat) (h : PairOk a b) (hk : 65 ≤ k) : m_turn_join k [.sh a.d, .sh b.d] = ok (pairD (joinT a b)) := by
  obtain ⟨k, rfl⟩ := k_succ (n := 0) (k := k) (by omega)
  obtain ⟨h1, h2, h3⟩ := h
  have e1 := E_check_both a b k h1 (by omega) h2 h3
  have e2 := e_joinT a b k (by omega)
  simp [m_turn_join, b_turn_join, e1, e2]
theorem e_purse_of : ∀ (t : Tr) (k : Nat), t.size < k → m_purse_of k [.sh t.d] = ri (t.hv : Nat)
  | .lf, k, h => by
    obtain ⟨k, rfl⟩ := k_succ h
    simp [m_purse_of, b_purse_of, Tr.d, Tr.hv]
  | .nd l x r, k, h => by
    obtain ⟨k, rfl⟩ := k_succ h
    simp only [Tr.size] at h
    have h1 := e_purse_of l k (by omega)
    have h2 := e_purse_of r k (by omega)
    have h3 := e_size_of l k (by omega)
    have h4 := e_size_of r k (by omega)
    by_cases c : l.size < r.size
    · have c' : (l.size : Int) < r.size := by omega
      simp [m_purse_of, b_purse_of, Tr.d, Tr.hv, h1, h2, h3, h4, c, c']
    · have c' : ¬ (l.size : Int) < r.size := by omega
      simp [m_purse_of, b_purse_of, Tr.d, Tr.hv, h1, h2, h3, h4, c, c']
theorem E_purse (t : Tr) (k : Nat) (h : t.size ≤ 40) (hk : 60 ≤ k) (hh : t.heap = true) : m_purse k [.sh t.d] = ri (t.hv : Nat) := by
  obtain ⟨k, rfl⟩ := k_succ (n := 0) (k := k) (by omega)
  have h1 := E_check_heap t k h (by omega)
  rw [if_pos hh] at h1
  have h2 := e_purse_of t k (by omega)
  simp [m_purse, b_purse, h1, h2]
def takeT : Tr → R
  | .lf => .err "Empty"
  | .nd l x r => ok (.tuple [.int x, (joinT l r).1.d, .int ((joinT l r).2 : Nat)])
theorem E_turn_take (t : Tr) (k : Nat) (h : t.size ≤ 40) (hk : 70 ≤ k) (hh : t.heap = true) : m_turn_take k [.sh t.d] = takeT t := by
  obtain ⟨k, rfl⟩ := k_succ (n := 0) (k := k) (by omega)
  have a1 := E_check_heap t k h (by omega)
  rw [if_pos hh] at a1
  cases t with
  | lf => simp only [Tr.d] at *; simp [m_turn_take, b_turn_take, a1, takeT]
  | nd l x r =>
    simp only [Tr.size] at h
    have a3 := e_joinT l r k (by omega)
    simp only [Tr.d] at a1
    simp only [pairD] at a3
    simp [m_turn_take, b_turn_take, Tr.d, a1, a3, takeT]
inductive Bn where
  | leaf (k : Int)
  | link (o t : Bn)
  deriving DecidableEq
def Bn.key : Bn → Int
  | .leaf k => k
  | .link _ t => t.key
def Bn.cs : Bn → List D
  | .leaf _ => []
  | .link o t => .tuple [.int o.key, .list o.cs] :: t.cs
def Bn.d (t : Bn) : D := .tuple [.int t.key, .list t.cs]
def Bn.ks : Bn → List Int
  | .leaf _ => []
  | .link o t => (o.key :: o.ks) ++ t.ks
def Bn.keys (t : Bn) : List Int := t.key :: t.ks
def Bn.ord : Bn → Nat
  | .leaf _ => 0
  | .link _ t => t.ord + 1
def Bn.ok : Bn → Prop
  | .leaf _ => True
  | .link o t => o.ord = t.ord ∧ t.key ≤ o.key ∧ o.ok ∧ t.ok
theorem Bn.cs_len : ∀ t : Bn, t.cs.length = t.ord
  | .leaf _ => rfl
  | .link _ t => by simp only [Bn.cs, List.length_cons, t.cs_len, Bn.ord]
theorem Bn.ks_len : ∀ t : Bn, t.ok → t.ks.length + 1 = 2 ^ t.ord
  | .leaf _, _ => rfl
  | .link o t, h => by
    obtain ⟨h1, _, h3, h4⟩ := h
    have a := o.ks_len h3
    have b := t.ks_len h4
    rw [h1] at a
    simp only [Bn.ks, List.length_append, List.length_cons, Bn.ord, Nat.pow_succ]; omega
theorem Bn.keys_len (t : Bn) (h : t.ok) : t.keys.length = 2 ^ t.ord := by rw [← t.ks_len h]; rfl
theorem Bn.ks_ge : ∀ (t : Bn), t.ok → ∀ x ∈ t.ks, t.key ≤ x
  | .leaf _, _, x, m => absurd m List.not_mem_nil
  | .link o t, h, x, m => by
    obtain ⟨h1, h2, h3, h4⟩ := h
    simp only [Bn.ks, List.mem_append, List.mem_cons] at m
    rcases m with (rfl | m) | m
    · exact h2
    · exact Int.le_trans h2 (o.ks_ge h3 x m)
    · exact t.ks_ge h4 x m
theorem tree_loop (k : Nat) (K : Int) (z : Option SV) (L : List D) (n : Nat) (IH : ∀ o : Bn, o.ok → o.ord < n → m_is_tree k [.sh o.d, .sh (.int o.ord)] = rb true) : ∀ (t : Bn) (at' : Nat) (b2 b3 : Option SV), t.ok → t.key = K → at' + t.ord = n →
    ∃ c2 c3, forL (tg2 2 3) (p_is_tree_1 (m_is_key k) (m_is_tree k)) (enumD at' t.cs) [some (.sh (.tuple [.int K, .list L])), some (.sh (.int n)), b2, b3] = .nx [some (.sh (.tuple [.int K, .list L])), some (.sh (.int n)), c2, c3]
  | .leaf x, at', b2, b3, _, _, _ => ⟨b2, b3, rfl⟩
  | .link o t, at', b2, b3, h, hk, hn => by
    obtain ⟨h1, h2, h3, h4⟩ := h
    simp only [Bn.ord] at hn
    have e := IH o h3 (by omega)
    have i1 : (n : Int) - 1 - at' = o.ord := by omega
    have i2 : ¬ o.key < K := by simp only [Bn.key] at hk; omega
    obtain ⟨c2, c3, ih⟩ := tree_loop k K z L n IH t (at' + 1) (some (.sh (.int at'))) (some (.sh o.d)) h4 hk (by omega)
    refine ⟨c2, c3, ?_⟩
    rw [Bn.cs, enumD]
    rw [forL_go (env' := [some (.sh (.tuple [.int K, .list L])), some (.sh (.int n)), some (.sh (.int at')), some (.sh o.d)]) (e := [some (.sh (.tuple [.int K, .list L])), some (.sh (.int n)), some (.sh (.int at')), some (.sh o.d)]) (by simp [Bn.d]) (by
      simp only [Bn.d] at e
      simp [p_is_tree_1, Bn.d, i1, i2, e])]
    exact ih
theorem e_is_tree : ∀ (k : Nat) (t : Bn), t.ok → t.ord + 1 < k → m_is_tree k [.sh t.d, .sh (.int t.ord)] = rb true
  | 0, t, _, h => absurd h (by omega)
  | k + 1, t, ht, h => by
    obtain ⟨c2, c3, L⟩ := tree_loop k t.key none t.cs t.ord (fun o h1 h2 => e_is_tree k o h1 (by omega)) t 0 none none ht rfl (by omega)
    have e1 : m_is_key k [.sh (.int t.key)] = rb true := by
      obtain ⟨j, rfl⟩ : ∃ j, k = j + 1 := ⟨k - 1, by omega⟩
      exact e_is_key j _
    have e2 := t.cs_len
    simp [m_is_tree, b_is_tree, Bn.d, e1, e2, L]
theorem keys_loop (k : Nat) (th : Option SV) (n : Nat) (hn : n ≤ 20) (IH : ∀ o : Bn, o.ok → o.ord < n → m_keys_in k [.sh o.d] = .val (.ow (o.keys.map .int))) : ∀ (t : Bn) (acc : List Int) (b2 : Option SV), t.ok → t.ord ≤ n → acc.length + t.ks.length ≤ 1000000 →
    ∃ c2, forL (tgN 2) (p_keys_in_1 (m_keys_in k)) t.cs [th, some (.ow (acc.map .int)), b2] = .nx [th, some (.ow ((acc ++ t.ks).map .int)), c2]
  | .leaf x, acc, b2, _, _, _ => ⟨b2, by simp [Bn.cs, Bn.ks]⟩
  | .link o t, acc, b2, h, ho, hl => by
    obtain ⟨h1, h2, h3, h4⟩ := h
    simp only [Bn.ord] at ho
    have e := IH o h3 (by omega)
    simp only [Bn.ks, List.length_append, List.length_cons] at hl
    have l1 : acc.length + (o.ks.length + 1) ≤ 1000000 := by omega
    obtain ⟨c2, ih⟩ := keys_loop k th n hn IH t (acc ++ o.keys) (some (.sh o.d)) h4 (by omega) (by simp only [List.length_append, Bn.keys, List.length_cons]; omega)
    refine ⟨c2, ?_⟩
    rw [Bn.cs, forL_go (env' := [th, some (.ow (acc.map .int)), some (.sh o.d)]) (e := [th, some (.ow ((acc ++ o.keys).map .int)), some (.sh o.d)]) (by simp [Bn.d]) (by
      simp only [Bn.d] at e
      simp [p_keys_in_1, Bn.d, e, Bn.keys, l1])]
    rw [ih]
    simp only [Bn.ks, Bn.keys, List.append_assoc, List.cons_append]
theorem e_keys_in : ∀ (k : Nat) (t : Bn), t.ok → t.ord < k → t.ord ≤ 19 → m_keys_in k [.sh t.d] = .val (.ow (t.keys.map .int))
  | 0, t, _, h, _ => absurd h (by omega)
  | k + 1, t, ht, h, h2 => by
    have z := t.ks_len ht
    have p : 2 ^ t.ord ≤ 2 ^ 19 := Nat.pow_le_pow_right (by decide) h2
    obtain ⟨c2, L⟩ := keys_loop k (some (.sh t.d)) t.ord (by omega) (fun o h1 h2 => e_keys_in k o h1 (by omega) (by omega)) t [t.key] none ht (Nat.le_refl _) (by simp only [List.length_cons, List.length_nil]; omega)
    simp only [Bn.d, List.map_cons, List.map_nil] at L
    simp [m_keys_in, b_keys_in, Bn.d, L, Bn.keys]
def Bn.cl : Bn → List Bn
  | .leaf _ => []
  | .link o t => o :: t.cl
theorem Bn.cs_cl : ∀ t : Bn, t.cs = t.cl.map Bn.d
  | .leaf _ => rfl
  | .link o t => by simp only [Bn.cs, Bn.cl, List.map_cons, t.cs_cl]; rfl
theorem Bn.cl_ok : ∀ t : Bn, t.ok → ∀ o ∈ t.cl, o.ok ∧ o.ord < t.ord
  | .leaf _, _, o, m => absurd m List.not_mem_nil
  | .link c t, h, o, m => by
    obtain ⟨h1, h2, h3, h4⟩ := h
    rcases List.mem_cons.mp m with rfl | m
    · exact ⟨h3, by simp only [Bn.ord]; omega⟩
    · obtain ⟨q1, q2⟩ := t.cl_ok h4 o m
      exact ⟨q1, by simp only [Bn.ord]; omega⟩
theorem Bn.keys_link (o t : Bn) : (Bn.link o t).keys.Perm (o.keys ++ t.keys) := by
  simp only [Bn.keys, Bn.key, Bn.ks, List.cons_append]
  exact (List.Perm.swap _ _ _).trans ((List.perm_middle).symm.cons _)
def pks (ps : List Bn) : List Int := ps.flatMap Bn.keys
structure PileOk (ps : List Bn) : Prop where
  ok : ∀ t ∈ ps, t.ok ∧ t.ord ≤ 5
  inc : ps.Pairwise fun a b => a.ord < b.ord
  tot : (pks ps).length ≤ 40
theorem pks_cons (t : Bn) (ps : List Bn) : pks (t :: ps) = t.keys ++ pks ps := rfl
theorem pks_app (a b : List Bn) : pks (a ++ b) = pks a ++ pks b := by simp [pks]
theorem E_order_of (t : Bn) (k : Nat) (hk : 1 ≤ k) : m_order_of k [.sh t.d] = ri (t.ord : Nat) := by
  obtain ⟨k, rfl⟩ := k_succ (n := 0) (k := k) (by omega)
  have := t.cs_len
  simp [m_order_of, b_order_of, Bn.d, this]
theorem pile_loop (k : Nat) (hk : 20 ≤ k) (th : Option SV) : ∀ (ps : List Bn) (last many : Int) (b3 b4 : Option SV), (∀ t ∈ ps, t.ok ∧ t.ord ≤ 5) → ps.Pairwise (fun a b => a.ord < b.ord) → (∀ t ∈ ps, last < t.ord) →
    ∃ c1 c3 c4, forL (tgN 3) (p_is_pile_1 (m_order_of k) (m_is_tree k)) (ps.map Bn.d) [th, some (.sh (.int last)), some (.sh (.int many)), b3, b4] = .nx [th, c1, some (.sh (.int (many + (pks ps).length))), c3, c4]
  | [], last, many, b3, b4, _, _, _ => ⟨some (.sh (.int last)), b3, b4, by simp [pks]⟩
  | t :: r, last, many, b3, b4, h, hi, hl => by
    obtain ⟨t1, t2⟩ := h t List.mem_cons_self
    obtain ⟨i1, i2⟩ := List.pairwise_cons.mp hi
    have q := hl t List.mem_cons_self
    have e1 := E_order_of t k (by omega)
    have e2 := e_is_tree k t t1 (by omega)
    have q1 : ¬ (t.ord : Int) ≤ last := by omega
    have q2 : ¬ (5 : Int) < t.ord := by omega
    have q3 : (t.ord : Int) ≤ 1000000 := by omega
    obtain ⟨c1, c3, c4, ih⟩ := pile_loop k hk th r t.ord (many + (2 ^ t.ord : Nat)) (some (.sh t.d)) (some (.sh (.int t.ord))) (fun s m => h s (List.mem_cons_of_mem _ m)) i2 (fun s m => by have := i1 s m; omega)
    refine ⟨c1, c3, c4, ?_⟩
    rw [List.map_cons, forL_go (env' := [th, some (.sh (.int last)), some (.sh (.int many)), some (.sh t.d), b4]) (e := [th, some (.sh (.int t.ord)), some (.sh (.int (many + (2 ^ t.ord : Nat)))), some (.sh t.d), some (.sh (.int t.ord))]) (by simp) (by
      simp only [Bn.d] at e1 e2
      simp [p_is_pile_1, Bn.d, e1, e2, q1, q2, q3])]
    rw [ih, pks_cons, List.length_append, t.keys_len t1]
    have : many + ((2 ^ t.ord : Nat) : Int) + ((pks r).length : Int) = many + ((2 ^ t.ord + (pks r).length : Nat) : Int) := by omega
    rw [this]
theorem E_is_pile (ps : List Bn) (k : Nat) (hk : 30 ≤ k) (h : PileOk ps) : m_is_pile k [.sh (.list (ps.map Bn.d))] = rb true := by
  obtain ⟨k, rfl⟩ := k_succ (n := 0) (k := k) (by omega)
  obtain ⟨c1, c3, c4, L⟩ := pile_loop k (by omega) (some (.sh (.list (ps.map Bn.d)))) ps (-1) 0 none none h.ok h.inc (fun t _ => by omega)
  have q := h.tot
  have q' : ((pks ps).length : Int) ≤ 40 := by omega
  simp only [Int.zero_add] at L
  simp [m_is_pile, b_is_pile, L, q, q']
theorem E_check_pile (ps : List Bn) (k : Nat) (hk : 40 ≤ k) (h : PileOk ps) : m_check_pile k [.sh (.list (ps.map Bn.d))] = .val (.sh .none) := by
  obtain ⟨k, rfl⟩ := k_succ (n := 0) (k := k) (by omega)
  have e := E_is_pile ps k (by omega) h
  simp [m_check_pile, b_check_pile, e]
theorem pkeys_loop (k : Nat) (hk : 20 ≤ k) (th : Option SV) (c : List SV → R) : ∀ (ps : List Bn) (acc : List Int) (b2 : Option SV), (∀ t ∈ ps, t.ok ∧ t.ord ≤ 5) → acc.length + (pks ps).length ≤ 1000 →
    ∃ c2, forL (tgN 2) (p_pile_keys_1 c (m_keys_in k)) (ps.map Bn.d) [th, some (.ow (acc.map .int)), b2] = .nx [th, some (.ow ((acc ++ pks ps).map .int)), c2]
  | [], acc, b2, _, _ => ⟨b2, by simp [pks]⟩
  | t :: r, acc, b2, h, hl => by
    obtain ⟨t1, t2⟩ := h t List.mem_cons_self
    rw [pks_cons, List.length_append] at hl
    have e := e_keys_in k t t1 (by omega) (by omega)
    have l1 : acc.length + t.keys.length ≤ 1000000 := by omega
    obtain ⟨c2, ih⟩ := pkeys_loop k hk th c r (acc ++ t.keys) (some (.sh t.d)) (fun s m => h s (List.mem_cons_of_mem _ m)) (by rw [List.length_append]; omega)
    refine ⟨c2, ?_⟩
    rw [List.map_cons, forL_go (env' := [th, some (.ow (acc.map .int)), some (.sh t.d)]) (e := [th, some (.ow ((acc ++ t.keys).map .int)), some (.sh t.d)]) (by simp) (by simp [p_pile_keys_1, e, l1])]
    rw [ih, pks_cons, List.append_assoc]
theorem E_pile_keys (ps : List Bn) (k : Nat) (hk : 50 ≤ k) (h : PileOk ps) : m_pile_keys k [.sh (.list (ps.map Bn.d))] = .val (.ow ((srt (pks ps)).map .int)) := by
  obtain ⟨k, rfl⟩ := k_succ (n := 0) (k := k) (by omega)
  have e := E_check_pile ps k (by omega) h
  have q := h.tot
  obtain ⟨c2, L⟩ := pkeys_loop k (by omega) (some (.sh (.list (ps.map Bn.d)))) (m_check_pile k) ps [] none h.ok (by simp; omega)
  simp only [List.map_nil, List.nil_append] at L
  simp [m_pile_keys, b_pile_keys, e, L]
theorem pks_cl : ∀ t : Bn, pks t.cl = t.ks
  | .leaf _ => rfl
  | .link o t => by rw [Bn.cl, pks_cons, pks_cl t]; rfl
theorem pks_ge : ∀ ps : List Bn, ps.length ≤ (pks ps).length
  | [] => Nat.le_refl _
  | t :: r => by
    have := pks_ge r
    rw [pks_cons, List.length_append, List.length_cons]; simp only [Bn.keys, List.length_cons]; omega
theorem E_keys_of (t : Tr) (k : Nat) (h : t.size ≤ 40) (hk : 60 ≤ k) (hk2 : k ≤ 1000) (hh : t.heap = true) : m_keys_of k [.sh t.d] = .val (.ow ((srt t.row).map .int)) := by
  obtain ⟨k, rfl⟩ := k_succ (n := 0) (k := k) (by omega)
  have h1 := E_check_heap t k h (by omega)
  rw [if_pos hh] at h1
  have h2 := e_row_from t k (by omega) (by omega)
  simp [m_keys_of, b_keys_of, h1, h2]
theorem E_row_of (t : Tr) (k : Nat) (h : t.size ≤ 40) (hk : 60 ≤ k) (hk2 : k ≤ 1000) (hh : t.heap = true) : m_row_of k [.sh t.d] = .val (.ow (t.row.map .int)) := by
  obtain ⟨k, rfl⟩ := k_succ (n := 0) (k := k) (by omega)
  have h1 := E_check_heap t k h (by omega)
  rw [if_pos hh] at h1
  have h2 := e_row_from t k (by omega) (by omega)
  simp [m_row_of, b_row_of, h1, h2]
theorem pks_sub {a b : List Bn} (h : a.Sublist b) : (pks a).length ≤ (pks b).length := by
  induction h with
  | slnil => exact Nat.le_refl _
  | cons x _ ih => rw [pks_cons, List.length_append]; omega
  | cons_cons x _ ih => rw [pks_cons, pks_cons, List.length_append, List.length_append]; omega
theorem PileOk.sub {a b : List Bn} (h : PileOk b) (s : a.Sublist b) : PileOk a := ⟨fun t m => h.ok t (s.subset m), h.inc.sublist s, Nat.le_trans (pks_sub s) h.tot⟩
theorem manyF_any : ∀ (n m ks rk : Nat), ks < n → ks < m → manyF n ks rk = manyF m ks rk
  | 0, _, _, _, h, _ => absurd h (by omega)
  | _ + 1, 0, _, _, _, h => absurd h (by omega)
  | n + 1, m + 1, ks, rk, h1, h2 => by
    unfold manyF
    split
    · rfl
    split
    · rfl
    refine congrArg List.sum (List.map_congr_left fun lf hl => ?_)
    have hl := List.mem_range.mp hl
    rw [manyF_any n m (ks - 1 - lf) (rk - 1) (by omega) (by omega)]
    refine congrArg _ (congrArg List.sum (List.map_congr_left fun he _ => ?_))
    rw [manyF_any n m lf he (by omega) (by omega)]
def leastN (lf r : Nat) : Nat := ((List.range 8).map fun he => if r ≤ he ∧ 2 ^ he - 1 ≤ lf then manyN lf he else 0).sum
theorem manyN_eq (ks rk : Nat) : manyN ks rk = if ks = 0 ∨ rk = 0 then (if ks = rk then 1 else 0) else if ks < 2 ^ rk - 1 then 0 else
    ((List.range ks).map fun lf => manyN (ks - 1 - lf) (rk - 1) * leastN lf (rk - 1)).sum := by
  show manyF (ks + 1) ks rk = _
  unfold manyF
  split
  · rfl
  split
  · rfl
  refine congrArg List.sum (List.map_congr_left fun lf hl => ?_)
  have hl := List.mem_range.mp hl
  rw [show manyN (ks - 1 - lf) (rk - 1) = manyF ks (ks - 1 - lf) (rk - 1) from manyF_any _ _ _ _ (by omega) (by omega)]
  refine congrArg _ (congrArg List.sum (List.map_congr_left fun he _ => ?_))
  rw [show manyN lf he = manyF ks lf he from manyF_any _ _ _ _ (by omega) (by omega)]
theorem sum_zero : ∀ {l : List Nat}, (∀ x ∈ l, x = 0) → l.sum = 0
  | [], _ => rfl
  | x :: r, h => by rw [List.sum_cons, h x List.mem_cons_self, sum_zero fun y m => h y (List.mem_cons_of_mem _ m)]
theorem leastN_stop {ks h : Nat} (c : ks < 2 ^ h - 1) : leastN ks h = 0 := by
  unfold leastN
  refine sum_zero ?_
  intro x hx
  obtain ⟨he, _, rfl⟩ := List.mem_map.mp hx
  refine if_neg fun z => ?_
  have : 2 ^ h ≤ 2 ^ he := Nat.pow_le_pow_right (by decide) z.1
  omega
theorem leastN_step {ks h : Nat} (hh : h < 8) (c : 2 ^ h - 1 ≤ ks) : leastN ks h = manyN ks h + leastN ks (h + 1) := by
  have key : ∀ he, (if h ≤ he ∧ 2 ^ he - 1 ≤ ks then manyN ks he else 0) = (if he = h then manyN ks h else 0) + (if h + 1 ≤ he ∧ 2 ^ he - 1 ≤ ks then manyN ks he else 0) := fun he => by
    by_cases e : he = h
    · subst e
      rw [if_pos ⟨Nat.le_refl _, c⟩, if_pos rfl, if_neg (by omega), Nat.add_zero]
    · rw [if_neg e, Nat.zero_add]
      by_cases z : h ≤ he ∧ 2 ^ he - 1 ≤ ks
      · rw [if_pos z, if_pos ⟨by omega, z.2⟩]
      · rw [if_neg z, if_neg (by omega)]
  have add : ∀ (l : List Nat) (f g k : Nat → Nat), (∀ x, f x = g x + k x) → (l.map f).sum = (l.map g).sum + (l.map k).sum := fun l f g k e => by
    induction l with
    | nil => rfl
    | cons x r ih => simp only [List.map_cons, List.sum_cons, ih, e x]; omega
  unfold leastN
  rw [add _ _ _ _ key]
  have : ((List.range 8).map fun he => if he = h then manyN ks h else 0).sum = manyN ks h := by
    have : h = 0 ∨ h = 1 ∨ h = 2 ∨ h = 3 ∨ h = 4 ∨ h = 5 ∨ h = 6 ∨ h = 7 := by omega
    rcases this with rfl | rfl | rfl | rfl | rfl | rfl | rfl | rfl <;> simp [List.range_succ]
  rw [this]
theorem sum_le : ∀ {l : List Nat} {m : Nat}, (∀ x ∈ l, x ≤ m) → l.sum ≤ l.length * m
  | [], _, _ => by simp
  | x :: r, m, h => by
    have a := h x List.mem_cons_self
    have b := sum_le (l := r) fun y z => h y (List.mem_cons_of_mem _ z)
    rw [List.sum_cons, List.length_cons, Nat.add_mul, Nat.one_mul]; omega
theorem manyN_le : ∀ (n ks rk : Nat), ks ≤ n → ks ≤ 60 → manyN ks rk ≤ 2 ^ (9 * ks)
  | n, ks, rk, hn, h60 => by
    rw [manyN_eq]
    split
    · split
      · exact Nat.pow_pos (by decide)
      · exact Nat.zero_le _
    split
    · exact Nat.zero_le _
    rename_i c _
    have k0 : 0 < ks := by omega
    cases n with
    | zero => omega
    | succ n =>
      have ih : ∀ j r, j < ks → manyN j r ≤ 2 ^ (9 * j) := fun j r hj => manyN_le n j r (by omega) (by omega)
      have lea : ∀ j r, j < ks → leastN j r ≤ 8 * 2 ^ (9 * j) := fun j r hj => by
        unfold leastN
        refine Nat.le_trans (sum_le (m := 2 ^ (9 * j)) fun x m => ?_) (by simp)
        obtain ⟨he, _, rfl⟩ := List.mem_map.mp m
        split
        · exact ih j he hj
        · exact Nat.zero_le _
      refine Nat.le_trans (sum_le (m := 8 * 2 ^ (9 * (ks - 1))) fun x m => ?_) ?_
      · obtain ⟨lf, hl, rfl⟩ := List.mem_map.mp m
        have hl := List.mem_range.mp hl
        refine Nat.le_trans (Nat.mul_le_mul (ih _ _ (by omega)) (lea lf _ (by omega))) ?_
        have : 2 ^ (9 * (ks - 1 - lf)) * (8 * 2 ^ (9 * lf)) = 8 * (2 ^ (9 * (ks - 1 - lf)) * 2 ^ (9 * lf)) := by rw [Nat.mul_left_comm]
        rw [this, ← Nat.pow_add]
        refine Nat.mul_le_mul_left _ (Nat.pow_le_pow_right (by decide) (by omega))
      · rw [List.length_map, List.length_range]
        have e : 9 * ks = 9 * (ks - 1) + 9 := by omega
        rw [e, Nat.pow_add]
        have : ks * (8 * 2 ^ (9 * (ks - 1))) = (ks * 8) * 2 ^ (9 * (ks - 1)) := by rw [Nat.mul_assoc]
        rw [this, Nat.mul_comm (2 ^ (9 * (ks - 1)))]
        exact Nat.mul_le_mul_right _ (by omega)
abbrev tabV : SV := .ob 101 []
theorem least_go (k ks : Nat) (hks : ks ≤ 40) (a1 : Option SV) (H : ∀ he : Nat, he ≤ 7 → m_many_of k [.sh (.int ks), .sh (.int he), tabV] = ri (manyN ks he : Nat)) :
    ∀ (n h acc : Nat), h ≤ 6 → 8 ≤ h + n → ∃ h', sWhile n (p_at_least_1 (m_many_of k)) (p_at_least_2 (m_many_of k)) [some (.sh (.int ks)), a1, some tabV, some (.sh (.int acc)), some (.sh (.int h))] = .nx [some (.sh (.int ks)), a1, some tabV, some (.sh (.int (acc + leastN ks h : Nat))), h']
  | 0, h, acc, h1, h2 => absurd h2 (by omega)
  | n + 1, h, acc, h1, h2 => by
    have t : p_at_least_1 (m_many_of k) [some (.sh (.int ks)), a1, some tabV, some (.sh (.int acc)), some (.sh (.int h))] = rb (decide (2 ^ h - 1 ≤ ks)) := by
      have : h = 0 ∨ h = 1 ∨ h = 2 ∨ h = 3 ∨ h = 4 ∨ h = 5 ∨ h = 6 := by omega
      rcases this with rfl | rfl | rfl | rfl | rfl | rfl | rfl <;> simp [p_at_least_1] <;> omega
    by_cases c : 2 ^ h - 1 ≤ ks
    · have h5 : h ≤ 5 := by
        by_cases z : h = 6
        · subst z; omega
        · omega
      have e := H h (by omega)
      obtain ⟨h', ih⟩ := least_go k ks hks a1 H n (h + 1) (acc + manyN ks h) (by omega) (by omega)
      refine ⟨h', ?_⟩
      rw [sWhile_go (t.trans (by rw [decide_eq_true c])) (e := [some (.sh (.int ks)), a1, some tabV, some (.sh (.int (acc + manyN ks h : Nat))), some (.sh (.int (h + 1 : Nat)))]) (by
        simp only [tabV] at e
        simp [p_at_least_2, e]), ih, leastN_step (by omega) c, Nat.add_assoc]
    · refine ⟨some (.sh (.int h)), ?_⟩
      rw [sWhile_end (t.trans (by rw [decide_eq_false c])), leastN_stop (by omega), Nat.add_zero]
theorem at_least_of (k ks r : Nat) (hks : ks ≤ 40) (hr : r ≤ 6) (H : ∀ he : Nat, he ≤ 7 → m_many_of k [.sh (.int ks), .sh (.int he), tabV] = ri (manyN ks he : Nat)) : m_at_least (k + 1) [.sh (.int ks), .sh (.int r), tabV] = ri (leastN ks r : Nat) := by
  obtain ⟨h', L⟩ := least_go k ks hks (some (.sh (.int r))) H 300 r 0 hr (by omega)
  simp only [Nat.zero_add, tabV] at L
  simp at L
  simp [m_at_least, b_at_least, WF, L]
theorem many_bits {ks r : Nat} (h : ks ≤ 40) : bits ((manyN ks r : Nat) : Int) ≤ 400 := PySem.intBits_le_iff.mpr (by
  rw [Int.natAbs_natCast]
  exact Nat.lt_of_le_of_lt (manyN_le ks ks r (Nat.le_refl _) (by omega)) (Nat.pow_lt_pow_right (by decide) (by omega)))
theorem least_bits {ks r : Nat} (h : ks ≤ 40) : bits ((leastN ks r : Nat) : Int) ≤ 400 := PySem.intBits_le_iff.mpr (by
  rw [Int.natAbs_natCast]
  have a : leastN ks r ≤ 8 * 2 ^ 360 := by
    unfold leastN
    refine Nat.le_trans (sum_le (m := 2 ^ 360) fun x m => ?_) (by simp)
    obtain ⟨he, _, rfl⟩ := List.mem_map.mp m
    split
    · exact Nat.le_trans (manyN_le ks ks he (Nat.le_refl _) (by omega)) (Nat.pow_le_pow_right (by decide) (by omega))
    · exact Nat.zero_le _
  exact Nat.lt_of_le_of_lt a (by decide +kernel))
def partL (ks r : Nat) (lfs : List Nat) : List (Nat × Nat) := (lfs.filter fun lf => decide (0 < manyN (ks - 1 - lf) r)).map fun lf => (lf, manyN (ks - 1 - lf) r * leastN lf r)
def partD (p : Nat × Nat) : D := .tuple [.int (p.1 : Nat), .int (p.2 : Nat)]
theorem parted_go (k ks r : Nat) (hks : ks ≤ 40) (M : ∀ j, j < ks → m_many_of k [.sh (.int j), .sh (.int r), tabV] = ri (manyN j r : Nat)) (A : ∀ j, j < ks → m_at_least k [.sh (.int j), .sh (.int r), tabV] = ri (leastN j r : Nat)) :
    ∀ (n lo : Nat) (acc : List (Nat × Nat)) (b4 b5 : Option SV), lo + n = ks → acc.length ≤ lo →
    ∃ c4 c5, forL (tgN 4) (p_parted_1 (m_many_of k) (m_at_least k)) (rngD lo 1 n) [some (.sh (.int ks)), some (.sh (.int (r + 1 : Nat))), some tabV, some (.ow (acc.map partD)), b4, b5] = .nx [some (.sh (.int ks)), some (.sh (.int (r + 1 : Nat))), some tabV, some (.ow ((acc ++ partL ks r (List.range' lo n)).map partD)), c4, c5]
  | 0, lo, acc, b4, b5, _, _ => ⟨b4, b5, by simp [rngD, partL]⟩
  | n + 1, lo, acc, b4, b5, h, hl => by
    have i1 : (ks : Int) - 1 - lo = ((ks - 1 - lo : Nat) : Int) := by omega
    have e1 := M (ks - 1 - lo) (by omega)
    have e2 := A lo (by omega)
    have l1 : acc.length ≤ 1000000 := by omega
    have i2 : ((r + 1 : Nat) : Int) - 1 = (r : Int) := by omega
    have mu : mulOk ((manyN (ks - 1 - lo) r : Nat) : Int) ((leastN lo r : Nat) : Int) = true := mulOk_bits (m := 400) (n := 400) (many_bits (by omega)) (least_bits (by omega)) (by decide)
    rw [rngD_cons, List.range'_succ]
    by_cases c : 0 < manyN (ks - 1 - lo) r
    · obtain ⟨c4, c5, ih⟩ := parted_go k ks r hks M A n (lo + 1) (acc ++ [(lo, manyN (ks - 1 - lo) r * leastN lo r)]) (some (.sh (.int lo))) (some (.sh (.int (manyN (ks - 1 - lo) r : Nat)))) (by omega) (by simp only [List.length_append, List.length_cons, List.length_nil]; omega)
      refine ⟨c4, c5, ?_⟩
      have c' : (0 : Int) < (manyN (ks - 1 - lo) r : Nat) := by omega
      rw [forL_go (env' := [some (.sh (.int ks)), some (.sh (.int (r + 1 : Nat))), some tabV, some (.ow (acc.map partD)), some (.sh (.int lo)), b5]) (e := [some (.sh (.int ks)), some (.sh (.int (r + 1 : Nat))), some tabV, some (.ow ((acc ++ [(lo, manyN (ks - 1 - lo) r * leastN lo r)]).map partD)), some (.sh (.int lo)), some (.sh (.int (manyN (ks - 1 - lo) r : Nat)))]) (by simp) ?_]
      · have : ((lo : Int) + 1) = ((lo + 1 : Nat) : Int) := by omega
        rw [this, ih]
        simp [partL, c]
      · generalize manyN (ks - 1 - lo) r = q at *
        generalize leastN lo r = q2 at *
        generalize hR : ((r + 1 : Nat) : Int) = R at *
        simp only [tabV] at e1 e2
        simp [p_parted_1, i1, i2, e1, e2, c', c, mu, l1, partD]
    · obtain ⟨c4, c5, ih⟩ := parted_go k ks r hks M A n (lo + 1) acc (some (.sh (.int lo))) (some (.sh (.int (manyN (ks - 1 - lo) r : Nat)))) (by omega) (by omega)
      refine ⟨c4, c5, ?_⟩
      have c' : ¬ (0 : Int) < (manyN (ks - 1 - lo) r : Nat) := by omega
      rw [forL_go (env' := [some (.sh (.int ks)), some (.sh (.int (r + 1 : Nat))), some tabV, some (.ow (acc.map partD)), some (.sh (.int lo)), b5]) (e := [some (.sh (.int ks)), some (.sh (.int (r + 1 : Nat))), some tabV, some (.ow (acc.map partD)), some (.sh (.int lo)), some (.sh (.int (manyN (ks - 1 - lo) r : Nat)))]) (by simp) ?_]
      · have : ((lo : Int) + 1) = ((lo + 1 : Nat) : Int) := by omega
        rw [this, ih]
        simp [partL, c]
      · generalize manyN (ks - 1 - lo) r = q at *
        generalize hR : ((r + 1 : Nat) : Int) = R at *
        simp only [tabV] at e1 e2
        simp [p_parted_1, i1, i2, e1, e2, c', c]
theorem parted_of (k ks r : Nat) (hks : ks ≤ 40) (M : ∀ j, j < ks → m_many_of k [.sh (.int j), .sh (.int r), tabV] = ri (manyN j r : Nat)) (A : ∀ j, j < ks → m_at_least k [.sh (.int j), .sh (.int r), tabV] = ri (leastN j r : Nat)) :
    m_parted (k + 1) [.sh (.int ks), .sh (.int (r + 1 : Nat)), tabV] = .val (.ow ((partL ks r (List.range ks)).map partD)) := by
  obtain ⟨c4, c5, L⟩ := parted_go k ks r hks M A ks 0 [] none none (by omega) (by simp)
  have i1 : -1000000 ≤ (ks : Int) ∧ (ks : Int) ≤ 1000000 := by omega
  rw [← List.range_eq_range'] at L
  simp only [List.map_nil, List.nil_append, Int.natCast_zero, tabV] at L
  generalize hR : ((r + 1 : Nat) : Int) = R at *
  simp [m_parted, b_parted, i1, L]
theorem part_sum (ks r : Nat) (l : List Nat) : ((partL ks r l).map (·.2)).sum = (l.map fun lf => manyN (ks - 1 - lf) r * leastN lf r).sum := by
  induction l with
  | nil => rfl
  | cons x t ih =>
    simp only [partL] at ih ⊢
    rw [List.filter_cons]
    by_cases c : 0 < manyN (ks - 1 - x) r
    · simp only [c, decide_true, if_true, List.map_cons, List.sum_cons, ih]
    · have z : manyN (ks - 1 - x) r = 0 := by omega
      rw [if_neg (by simpa using z), ih, List.map_cons, List.sum_cons, z, Nat.zero_mul, Nat.zero_add]
theorem sum_ints : ∀ l : List Nat, (l.map fun n : Nat => (n : Int)).sum = ((l.sum : Nat) : Int)
  | [] => rfl
  | x :: r => by rw [List.map_cons, List.sum_cons, List.sum_cons, sum_ints r, Int.natCast_add]
theorem memo_ret (k ks rk : Nat) (hks : ks ≤ 40) (hrk : rk ≤ 7) (k0 : ¬ ks = 0) (r0 : ¬ rk = 0) (c1 : ¬ ks < 2 ^ rk - 1)
    (hf : cal1 fSum (vLc [4, 5] (tg2 4 5) (itD iL (calF 3 (m_parted k) [vVar 0, vVar 1, vVar 2])) (vC (.bool true)) (vVar 5)) [some (.sh (.int ks)), some (.sh (.int rk)), some tabV, some (.sh (.tuple [.int ks, .int rk])), none, none] = ri (manyN ks rk : Nat)) :
    m_many_of (k + 1) [.sh (.int ks), .sh (.int rk), tabV] = ri (manyN ks rk : Nat) := by
  have rz : ((rk : Int) == 0) = false := by simpa using r0
  have kz : ((ks : Int) == 0) = false := by simpa using k0
  have rk6 : (rk : Int) ≤ 1000000 := by omega
  have c1' : ¬ (ks : Int) < ((2 ^ rk : Nat) : Int) - 1 := by
    have : 0 < 2 ^ rk := Nat.pow_pos (by decide)
    omega
  have c2 : ¬ (ks : Int) < 2 ^ rk - 1 := by simpa using c1'
  have bo : (ks : Int) ≤ 40 := by omega
  have bo2 : (rk : Int) ≤ 40 := by omega
  have t1 : ((ks : Int)).toNat = ks := Int.toNat_natCast _
  have t2 : ((rk : Int)).toNat = rk := Int.toNat_natCast _
  have mm : sMemo 3 2 0 1 (cal1 fSum (vLc [4, 5] (tg2 4 5) (itD iL (calF 3 (m_parted k) [vVar 0, vVar 1, vVar 2])) (vC (.bool true)) (vVar 5))) [some (.sh (.int ks)), some (.sh (.int rk)), some tabV, none, none, none] = .rt (.sh (.int (manyN ks rk : Nat))) := by
    generalize cal1 fSum (vLc [4, 5] (tg2 4 5) (itD iL (calF 3 (m_parted k) [vVar 0, vVar 1, vVar 2])) (vC (.bool true)) (vVar 5)) = F at *
    generalize hN : manyN ks rk = N at *
    simp only [tabV] at hf ⊢
    simp [hf, bo, bo2, hN]
  simp only [m_many_of, b_many_of]
  generalize sMemo 3 2 0 1 (cal1 fSum (vLc [4, 5] (tg2 4 5) (itD iL (calF 3 (m_parted k) [vVar 0, vVar 1, vVar 2])) (vC (.bool true)) (vVar 5))) = F at *
  generalize manyN ks rk = N at *
  simp [rz, kz, rk6, c2, mm]
theorem many_step (k ks rk : Nat) (hks : ks ≤ 40) (hrk : rk ≤ 7) (P : ∀ r, rk = r + 1 → ks ≠ 0 → m_parted k [.sh (.int ks), .sh (.int rk), tabV] = .val (.ow ((partL ks r (List.range ks)).map partD))) :
    m_many_of (k + 1) [.sh (.int ks), .sh (.int rk), tabV] = ri (manyN ks rk : Nat) := by
  rw [manyN_eq]
  by_cases c0 : ks = 0 ∨ rk = 0
  · rw [if_pos c0]
    have c0' : (ks : Int) = 0 ∨ (rk : Int) = 0 := by omega
    by_cases e : ks = rk
    · subst e
      have z : ks = 0 := by omega
      subst z
      simp [m_many_of, b_many_of]
    · rw [if_neg e]
      rcases c0 with rfl | rfl
      · have e' : ¬ (0 : Int) = rk := by omega
        simp [m_many_of, b_many_of, e, e']
      · have e' : ¬ (ks : Int) = 0 := by omega
        simp [m_many_of, b_many_of, e, e']
  · rw [if_neg c0]
    obtain ⟨k0, r0⟩ := not_or.mp c0
    have k0' : ¬ (ks : Int) = 0 := by omega
    have r0' : ¬ (rk : Int) = 0 := by omega
    have rk6 : (rk : Int) ≤ 1000000 := by omega
    have rz : ((rk : Int) == 0) = false := by simpa using r0
    have kz : ((ks : Int) == 0) = false := by simpa using k0
    have sh : (1 : Int) * 2 ^ rk = ((2 ^ rk : Nat) : Int) := by simp
    by_cases c1 : ks < 2 ^ rk - 1
    · rw [if_pos c1]
      have c1' : (ks : Int) < ((2 ^ rk : Nat) : Int) - 1 := by omega
      have c2 : (ks : Int) < 2 ^ rk - 1 := by simpa using c1'
      simp [m_many_of, b_many_of, rz, kz, rk6, c2]
    · rw [if_neg c1]
      have c1' : ¬ (ks : Int) < ((2 ^ rk : Nat) : Int) - 1 := by
        have : 0 < 2 ^ rk := Nat.pow_pos (by decide)
        omega
      have c2 : ¬ (ks : Int) < 2 ^ rk - 1 := by simpa using c1'
      obtain ⟨r, rfl⟩ : ∃ r, rk = r + 1 := ⟨rk - 1, by omega⟩
      have p := P r rfl k0
      have e := lcGo_map (t := tg2 4 5) (c := vC (.bool true)) (e := vVar 5) (env := [some (.sh (.int ks)), some (.sh (.int (r + 1 : Nat))), some tabV, some (.sh (.tuple [.int ks, .int (r + 1 : Nat)])), none, none]) partD (fun q => .int (q.2 : Nat)) (partL ks r (List.range ks)) fun q _ => ⟨_, rfl, rfl, by simp⟩
      have e2 : (partL ks r (List.range ks)).map (fun q => PyData.int ((q.2 : Nat) : Int)) = (((partL ks r (List.range ks)).map (·.2)).map fun n : Nat => (n : Int)).map PyData.int := by
        rw [List.map_map, List.map_map]; rfl
      rw [e2] at e
      have s1 := sum_ints ((partL ks r (List.range ks)).map (·.2))
      rw [part_sum] at s1
      have mn := manyN_eq ks (r + 1)
      rw [if_neg c0, if_neg c1, Nat.add_sub_cancel] at mn
      rw [Nat.add_sub_cancel, ← mn]
      rw [← mn] at s1
      have ln : (partL ks r (List.range ks)).length ≤ 1000000 := by
        have : (partL ks r (List.range ks)).length ≤ (List.range ks).length := by
          unfold partL; rw [List.length_map]; exact List.length_filter_le _ _
        rw [List.length_range] at this; omega
      have hf : cal1 fSum (vLc [4, 5] (tg2 4 5) (itD iL (calF 3 (m_parted k) [vVar 0, vVar 1, vVar 2])) (vC (.bool true)) (vVar 5)) [some (.sh (.int ks)), some (.sh (.int (r + 1 : Nat))), some tabV, some (.sh (.tuple [.int ks, .int (r + 1 : Nat)])), none, none] = ri (manyN ks (r + 1) : Nat) := by
        generalize (partL ks r (List.range ks)) = L at *
        generalize manyN ks (r + 1) = N at *
        generalize ((r + 1 : Nat) : Int) = R at *
        simp only [tabV] at p e ⊢
        simp [p, e, ln, s1, -List.map_map]
      exact memo_ret k ks (r + 1) hks (by omega) k0 r0 c1 hf
theorem many_all : ∀ (n ks : Nat), ks ≤ n → ks ≤ 40 → ∀ (k : Nat), 3 * ks < k → ∀ (rk : Nat), rk ≤ 7 → m_many_of k [.sh (.int ks), .sh (.int rk), tabV] = ri (manyN ks rk : Nat)
  | n, ks, hn, hks, k, hk, rk, hrk => by
    obtain ⟨k1, rfl⟩ : ∃ j, k = j + 1 := ⟨k - 1, by omega⟩
    refine many_step k1 ks rk hks hrk fun r er k0 => ?_
    subst er
    obtain ⟨k2, rfl⟩ : ∃ j, k1 = j + 1 := ⟨k1 - 1, by omega⟩
    cases n with
    | zero => omega
    | succ n =>
      refine parted_of k2 ks r hks (fun j hj => many_all n j (by omega) (by omega) k2 (by omega) r (by omega)) fun j hj => ?_
      obtain ⟨k3, rfl⟩ : ∃ j, k2 = j + 1 := ⟨k2 - 1, by omega⟩
      exact at_least_of k3 j r (by omega) (by omega) fun he h7 => many_all n j (by omega) (by omega) k3 (by omega) he h7
theorem E_many (k ks rk : Nat) (hks : ks ≤ 40) (hrk : rk ≤ 7) (hk : 3 * ks < k) : m_many_of k [.sh (.int ks), .sh (.int rk), tabV] = ri (manyN ks rk : Nat) := many_all ks ks (Nat.le_refl _) hks k hk rk hrk
theorem E_least (k ks r : Nat) (hks : ks ≤ 40) (hr : r ≤ 6) (hk : 3 * ks + 1 < k) : m_at_least k [.sh (.int ks), .sh (.int r), tabV] = ri (leastN ks r : Nat) := by
  obtain ⟨j, rfl⟩ : ∃ j, k = j + 1 := ⟨k - 1, by omega⟩
  exact at_least_of j ks r hks hr fun he h7 => E_many j ks he hks h7 (by omega)
theorem E_parted (k ks r : Nat) (hks : ks ≤ 40) (hr : r ≤ 6) (hk : 3 * ks + 1 < k) : m_parted k [.sh (.int ks), .sh (.int (r + 1 : Nat)), tabV] = .val (.ow ((partL ks r (List.range ks)).map partD)) := by
  obtain ⟨j, rfl⟩ : ∃ j, k = j + 1 := ⟨k - 1, by omega⟩
  exact parted_of j ks r hks (fun i hi => E_many j i r (by omega) (by omega) (by omega)) fun i hi => E_least j i r (by omega) (by omega) (by omega)
theorem e_check_count (k ks : Nat) (hks : ks ≤ 40) : m_check_count (k + 2) [.sh (.int ks)] = .val (.sh .none) := by
  have h : (ks : Int) ≤ 40 := by omega
  simp [m_check_count, b_check_count, e_is_key, h]
theorem E_how_many (k ks : Nat) (hks : ks ≤ 40) (hk : 130 ≤ k) : m_how_many (k + 1) [.sh (.int ks)] = ri (leastN ks 0 : Nat) := by
  have h1 : m_check_count k [.sh (.int ks)] = .val (.sh .none) := by
    obtain ⟨j, rfl⟩ : ∃ j, k = j + 2 := ⟨k - 2, by omega⟩
    exact e_check_count j ks hks
  have h2 := E_least k ks 0 hks (by omega) (by omega)
  simp only [tabV] at h2
  generalize leastN ks 0 = N at *
  simp at h2
  simp [m_how_many, b_how_many, h1, h2]
theorem manyN_low {a h : Nat} (c : a < 2 ^ h - 1) : manyN a h = 0 := by
  rw [manyN_eq]
  split
  · rename_i z
    have : 0 < h := by
      cases h with
      | zero => simp at c
      | succ _ => omega
    split
    · omega
    · rfl
  · rfl
def tS (ma h m : Nat) : Nat := ((List.range m).map fun lf => manyN (ma - 1 - lf) h * leastN lf h).sum
theorem tS_succ (ma h m : Nat) : tS ma h (m + 1) = tS ma h m + manyN (ma - 1 - m) h * leastN m h := by
  unfold tS
  rw [List.range_succ, List.map_append, List.sum_append]
  simp
theorem tS_all {ma h : Nat} (h0 : 0 < ma) : tS ma h ma = manyN ma (h + 1) := by
  rw [manyN_eq, if_neg (by omega)]
  split
  · rename_i c
    unfold tS
    refine sum_zero fun x m => ?_
    obtain ⟨lf, hl, rfl⟩ := List.mem_map.mp m
    have hl := List.mem_range.mp hl
    rw [Nat.pow_succ] at c
    have : 0 < 2 ^ h := Nat.pow_pos (by decide)
    by_cases d : ma - 1 - lf < 2 ^ h - 1
    · rw [manyN_low d, Nat.zero_mul]
    · rw [leastN_stop (by omega), Nat.mul_zero]
  · rfl
theorem run_rt (n : Nat) (B : FS) (as : List SV) (R : SV) (env : VEnv) (h : as.map some ++ List.replicate (n - as.length) none = env) (q : B env = .rt R) : runB n B as = .val R := by
  subst h
  unfold runB
  rw [q]
abbrev sL : Str := "left"
abbrev sR : Str := "right"
def wd (w : List Str) : D := .list (w.map .str)
def okS (s : Str) : Bool := (PyData.str s).canLay0
def okW (w : List Str) : Bool := w.all okS
theorem ok_left : okS sL = true := by decide +kernel
theorem ok_right : okS sR = true := by decide +kernel
theorem lr_ne : (sL : Str) ≠ sR := by decide +kernel
theorem eqvAll_strs : ∀ a b : List Str, PyData.eqvAll (a.map .str) (b.map .str) = (a == b)
  | [], [] => rfl
  | [], _ :: _ => rfl
  | _ :: _, [] => rfl
  | x :: a, y :: b => by
    simp only [List.map_cons, PyData.eqvAll, PyData.eqv, eqvAll_strs a b]
    rfl
theorem eqv_wd (a b : List Str) : PyData.eqv (wd a) (wd b) = (a == b) := by
  simp only [wd, PyData.eqv, eqvAll_strs]
theorem depth_strs : ∀ a : List Str, PyData.depthAll (a.map .str) = 0
  | [] => rfl
  | _ :: a => by simp only [List.map_cons, PyData.depthAll, PyData.depth, depth_strs a]; rfl
theorem depth_wd (a : List Str) : (wd a).depth = 1 := by simp only [wd, PyData.depth, depth_strs]
theorem depth_wds : ∀ ws : List (List Str), PyData.depthAll (ws.map wd) ≤ 1
  | [] => by simp only [List.map_nil, PyData.depthAll]; omega
  | w :: r => by
    have := depth_wds r
    simp only [List.map_cons, PyData.depthAll, depth_wd]
    omega
theorem lay_strs : ∀ {a : List Str}, okW a = true → PyData.canLayAll0 (a.map .str) = true
  | [], _ => by simp only [List.map_nil, PyData.canLayAll0]
  | x :: a, h => by
    simp only [okW, List.all_cons, Bool.and_eq_true] at h
    have := lay_strs (a := a) h.2
    simp only [List.map_cons, PyData.canLayAll0, this, Bool.and_true]
    exact h.1
theorem lay_wds : ∀ {ws : List (List Str)}, ws.all okW = true → PyData.canLayAll0 (ws.map wd) = true
  | [], _ => by simp only [List.map_nil, PyData.canLayAll0]
  | x :: a, h => by
    simp only [List.all_cons, Bool.and_eq_true] at h
    have := lay_wds (ws := a) h.2
    have h1 := lay_strs h.1
    simp only [List.map_cons, PyData.canLayAll0, this, Bool.and_true, wd, PyData.canLay0, h1]
theorem shaped_wd {a : List Str} (h : okW a = true) : SeqAt.shaped (wd a) = true := by
  unfold SeqAt.shaped
  rw [depth_wd]
  simp only [wd, PyData.canLay0, lay_strs h]; rfl
theorem shaped_wds {ws : List (List Str)} (h : ws.all okW = true) : SeqAt.shaped (.list (ws.map wd)) = true := by
  unfold SeqAt.shaped
  have := depth_wds ws
  rw [Bool.and_eq_true, decide_eq_true_eq]
  refine ⟨by simp only [PyData.canLay0, lay_wds h], ?_⟩
  simp only [PyData.depth]
  omega
theorem any_wd (ws : List (List Str)) (w : List Str) : ((ws.map wd).any fun z => PyData.eqv z (wd w)) = ws.contains w := by
  induction ws with
  | nil => rfl
  | cons v r ih =>
    rw [List.map_cons, List.any_cons, ih, eqv_wd, List.contains_cons]
    congr 1
    by_cases e : v = w
    · subst e; simp
    · rw [beq_eq_false_iff_ne.mpr e, beq_eq_false_iff_ne.mpr (Ne.symm e)]
theorem wd_flat (w : List Str) : flatD (wd w) = false := rfl
theorem fIn_wd {ws : List (List Str)} {w : List Str} (h1 : ws.all okW = true) (h2 : okW w = true) : fIn (wd w) (.list (ws.map wd)) = rb (ws.contains w) := by
  have e := any_wd ws w
  have s1 := shaped_wd h2
  have s2 := shaped_wds h1
  simp only [fIn, fInB, wd_flat, s1, s2, Bool.false_eq_true, false_and, if_false, and_self, if_true, e]
theorem eqvAll_wds : ∀ a b : List (List Str), PyData.eqvAll (a.map wd) (b.map wd) = (a == b)
  | [], [] => rfl
  | [], _ :: _ => rfl
  | _ :: _, [] => rfl
  | x :: a, y :: b => by
    simp only [List.map_cons, PyData.eqvAll, eqv_wd, eqvAll_wds a b]
    rfl
theorem fNe_wds (a b : List (List Str)) : fNe (.list (a.map wd)) (.list (b.map wd)) = rb (!(a == b)) := by
  have h1 := depth_wds a
  have h2 := depth_wds b
  unfold fNe
  rw [if_pos (by simp only [PyData.depth]; omega)]
  simp only [PyData.eqv, eqvAll_wds]
def slT : Tr → List Str → List (List Str)
  | .lf, _ => []
  | .nd l x r, w => (if l.rank < r.rank then [w] else []) ++ slT l (w ++ [sL]) ++ slT r (w ++ [sR])
theorem slantL_eq : ∀ (t : Tr) (w : List Str), slantL t (w.map .str) = (slT t w).map wd
  | .lf, _ => rfl
  | .nd l x r, w => by
    have h1 := slantL_eq l (w ++ [sL])
    have h2 := slantL_eq r (w ++ [sR])
    simp only [List.map_append, List.map_cons, List.map_nil] at h1 h2
    simp only [slantL, slT, h1, h2, List.map_append]
    split <;> rfl
theorem slT_pre : ∀ (t : Tr) (w : List Str), slT t w = (slT t []).map (w ++ ·)
  | .lf, _ => rfl
  | .nd l x r, w => by
    simp only [slT, List.nil_append]
    rw [slT_pre l (w ++ [sL]), slT_pre r (w ++ [sR]), slT_pre l [sL], slT_pre r [sR]]
    simp only [List.map_append, List.map_map]
    congr 1
    · congr 1
      · split <;> simp
      · refine List.map_congr_left fun a _ => ?_
        simp
    · refine List.map_congr_left fun a _ => ?_
      simp
theorem slT_nd {l r : Tr} {x : Int} {w : List Str} : w ∈ slT (.nd l x r) [] ↔ (w = [] ∧ l.rank < r.rank) ∨ (∃ v, w = sL :: v ∧ v ∈ slT l []) ∨ (∃ v, w = sR :: v ∧ v ∈ slT r []) := by
  simp only [slT, List.nil_append]
  rw [slT_pre l [sL], slT_pre r [sR]]
  simp only [List.mem_append, List.mem_map]
  constructor
  · rintro ((h | ⟨v, h1, rfl⟩) | ⟨v, h1, rfl⟩)
    · split at h
      · rename_i c; exact .inl ⟨List.mem_singleton.mp h, c⟩
      · exact absurd h List.not_mem_nil
    · exact .inr (.inl ⟨v, rfl, h1⟩)
    · exact .inr (.inr ⟨v, rfl, h1⟩)
  · rintro (⟨rfl, c⟩ | ⟨v, rfl, h1⟩ | ⟨v, rfl, h1⟩)
    · rw [if_pos c]; exact .inl (.inl List.mem_cons_self)
    · exact .inl (.inr ⟨v, h1, rfl⟩)
    · exact .inr ⟨v, h1, rfl⟩
theorem slT_ok : ∀ (t : Tr) (w : List Str), okW w = true → (slT t w).all okW = true
  | .lf, _, _ => rfl
  | .nd l x r, w, h => by
    have a1 : okW (w ++ [sL]) = true := by simp only [okW, List.all_append, List.all_cons, List.all_nil, ok_left, Bool.and_true]; exact h
    have a2 : okW (w ++ [sR]) = true := by simp only [okW, List.all_append, List.all_cons, List.all_nil, ok_right, Bool.and_true]; exact h
    simp only [slT, List.all_append, slT_ok l _ a1, slT_ok r _ a2, Bool.and_true]
    split <;> simp [h]
theorem slT_len (t : Tr) (w : List Str) : (slT t w).length ≤ t.size := by
  have := slantL_len t (w.map .str)
  rwa [slantL_eq, List.length_map] at this
theorem slT_nodup : ∀ t : Tr, (slT t []).Nodup
  | .lf => List.nodup_nil
  | .nd l x r => by
    simp only [slT, List.nil_append]
    rw [slT_pre l [sL], slT_pre r [sR]]
    have i1 : ((slT l []).map ([sL] ++ ·)).Nodup := (slT_nodup l).map _ fun a b h => by simpa using h
    have i2 : ((slT r []).map ([sR] ++ ·)).Nodup := (slT_nodup r).map _ fun a b h => by simpa using h
    refine List.nodup_append.mpr ⟨List.nodup_append.mpr ⟨by split <;> simp, i1, fun a m b m' => ?_⟩, i2, fun a m b m' => ?_⟩
    · obtain ⟨v, _, rfl⟩ := List.mem_map.mp m'
      split at m
      · rw [List.mem_singleton.mp m]; simp
      · exact absurd m List.not_mem_nil
    · obtain ⟨v, _, rfl⟩ := List.mem_map.mp m'
      rcases List.mem_append.mp m with m | m
      · split at m
        · rw [List.mem_singleton.mp m]; simp
        · exact absurd m List.not_mem_nil
      · obtain ⟨u, _, rfl⟩ := List.mem_map.mp m
        intro e
        simp only [List.cons_append, List.nil_append, List.cons.injEq] at e
        exact lr_ne e.1
theorem E_slanting (t : Tr) (k : Nat) (h : t.size + 1 < k) (hk : k ≤ 1000) : m_slanting k [.sh t.d, .sh (.list [])] = .val (.ow ((slT t []).map wd)) := by
  have e := e_slanting t [] k h (by simpa using hk)
  have := slantL_eq t []
  rw [List.map_nil] at this
  rw [e, this]
theorem slT_leans (t : Tr) : (slT t []).isEmpty = t.leans := by
  have h := slantL_nil t []
  have e := slantL_eq t []
  rw [List.map_nil] at e
  rw [e] at h
  rw [← h]
  cases slT t [] <;> rfl
def exT : Tr → List Str → List (List Str) → Tr
  | .lf, _, _ => .lf
  | .nd l x r, w, ws => if ws.contains w = true then .nd (exT r (w ++ [sR]) ws) x (exT l (w ++ [sL]) ws) else .nd (exT l (w ++ [sL]) ws) x (exT r (w ++ [sR]) ws)
theorem exT_size : ∀ (t : Tr) (w : List Str) (ws : List (List Str)), (exT t w ws).size = t.size
  | .lf, _, _ => rfl
  | .nd l x r, w, ws => by
    have h1 := exT_size l (w ++ [sL]) ws
    have h2 := exT_size r (w ++ [sR]) ws
    simp only [exT]
    split <;> simp only [Tr.size, h1, h2] <;> omega
theorem lean_rank : ∀ t : Tr, t.lean.rank = t.rank
  | .lf => rfl
  | .nd l x r => by
    simp only [Tr.lean, kn]
    split <;> simp only [Tr.rank, lean_rank l, lean_rank r] <;> omega
theorem exT_lean : ∀ (t : Tr) (w : List Str) (ws : List (List Str)), (∀ s, ws.contains (w ++ s) = true ↔ s ∈ slT t []) → exT t w ws = t.lean
  | .lf, _, _, _ => rfl
  | .nd l x r, w, ws, h => by
    have h1 := exT_lean l (w ++ [sL]) ws fun s => by
      have := h (sL :: s)
      rw [List.append_assoc, show [sL] ++ s = sL :: s from rfl, this, slT_nd]
      constructor
      · rintro (⟨z, _⟩ | ⟨v, e, m⟩ | ⟨v, e, m⟩)
        · cases z
        · cases e; exact m
        · exact absurd (List.cons.inj e).1 lr_ne
      · exact fun m => .inr (.inl ⟨s, rfl, m⟩)
    have h2 := exT_lean r (w ++ [sR]) ws fun s => by
      have := h (sR :: s)
      rw [List.append_assoc, show [sR] ++ s = sR :: s from rfl, this, slT_nd]
      constructor
      · rintro (⟨z, _⟩ | ⟨v, e, m⟩ | ⟨v, e, m⟩)
        · cases z
        · exact absurd (List.cons.inj e).1 (Ne.symm lr_ne)
        · cases e; exact m
      · exact fun m => .inr (.inr ⟨s, rfl, m⟩)
    have h0 := h []
    rw [List.append_nil, slT_nd] at h0
    simp only [exT, h1, h2, Tr.lean, kn, lean_rank]
    by_cases c : l.rank < r.rank
    · rw [if_pos c, if_pos (h0.mpr (.inl ⟨rfl, c⟩))]
    · rw [if_neg c, if_neg fun z => ?_]
      rcases h0.mp z with ⟨_, c'⟩ | ⟨v, e, _⟩ | ⟨v, e, _⟩
      · exact c c'
      · cases e
      · cases e
theorem e_exchanged : ∀ (t : Tr) (w : List Str) (ws : List (List Str)) (k : Nat), t.size < k → k + w.length ≤ 1000 → okW w = true → ws.all okW = true → m_exchanged k [.sh t.d, .sh (wd w), .sh (.list (ws.map wd))] = ok (exT t w ws).d
  | .lf, w, ws, k, h, _, _, _ => by
    obtain ⟨k, rfl⟩ := k_succ h
    simp [m_exchanged, b_exchanged, Tr.d, exT]
  | .nd l x r, w, ws, k, h, hk, ow, os => by
    obtain ⟨k, rfl⟩ := k_succ h
    simp only [Tr.size] at h
    have a1 : okW (w ++ [sL]) = true := by simp only [okW, List.all_append, List.all_cons, List.all_nil, ok_left, Bool.and_true]; exact ow
    have a2 : okW (w ++ [sR]) = true := by simp only [okW, List.all_append, List.all_cons, List.all_nil, ok_right, Bool.and_true]; exact ow
    have h1 := e_exchanged l (w ++ [sL]) ws k (by omega) (by simp only [List.length_append, List.length_cons, List.length_nil]; omega) a1 os
    have h2 := e_exchanged r (w ++ [sR]) ws k (by omega) (by simp only [List.length_append, List.length_cons, List.length_nil]; omega) a2 os
    have fi := fIn_wd os ow
    have wl : w.length + 1 ≤ 1000000 := by omega
    have e1 : ∀ s : Str, wd (w ++ [s]) = .list (w.map .str ++ [.str s]) := fun s => by simp [wd]
    rw [e1] at h1 h2
    simp only [exT]
    generalize exT l (w ++ [sL]) ws = L at *
    generalize exT r (w ++ [sR]) ws = R at *
    generalize ws.map wd = WS at *
    simp only [wd, sL, sR] at fi h1 h2 ⊢
    cases c : ws.contains w
    · rw [c] at fi
      simp [m_exchanged, b_exchanged, Tr.d, h1, h2, wl, fi, -fIn]
    · rw [c] at fi
      simp [m_exchanged, b_exchanged, Tr.d, h1, h2, wl, fi, -fIn]
theorem alike_strs : ∀ a b : List Str, PySem.W.alikeAll (a.map .str) (b.map .str) = true
  | [], _ => by simp only [List.map_nil, PySem.W.alikeAll]
  | _ :: _, [] => by simp only [List.map_cons, List.map_nil, PySem.W.alikeAll]
  | x :: a, y :: b => by simp only [List.map_cons, PySem.W.alikeAll, PySem.W.alike, alike_strs a b, Bool.and_self]
theorem alike_wd (a b : List Str) : PySem.W.alike (wd a) (wd b) = true := by
  simp only [wd, PySem.W.alike, alike_strs]
def leW (a b : List Str) : Bool := leD (wd a) (wd b)
def sortW (ws : List (List Str)) : List (List Str) := ws.mergeSort leW
theorem sortW_perm (ws : List (List Str)) : (sortW ws).Perm ws := List.mergeSort_perm _ _
theorem sortW_mem {ws : List (List Str)} {w : List Str} : w ∈ sortW ws ↔ w ∈ ws := (sortW_perm ws).mem_iff
theorem sortW_ok {ws : List (List Str)} (h : ws.all okW = true) : (sortW ws).all okW = true := by
  rw [List.all_eq_true] at *
  exact fun w m => h w (sortW_mem.mp m)
theorem alikeB_wds (ws : List (List Str)) : alikeB (ws.map wd) = true := by
  unfold alikeB
  simp only [List.all_eq_true, List.mem_map]
  rintro _ ⟨a, _, rfl⟩ _ ⟨b, _, rfl⟩
  exact alike_wd a b
theorem plain_wds (ws : List (List Str)) : (ws.map wd).all plainB = true := by
  simp only [List.all_eq_true, List.mem_map]
  rintro _ ⟨a, _, rfl⟩
  rfl
theorem depth60_wds (ws : List (List Str)) : ((ws.map wd).all fun d => decide (d.depth ≤ 60)) = true := by
  simp only [List.all_eq_true, List.mem_map]
  rintro _ ⟨a, _, rfl⟩
  rw [depth_wd]; decide
theorem fSortedD_wds (ws : List (List Str)) : fSortedD (.list (ws.map wd)) = .val (.ow ((sortW ws).map wd)) := by
  have e : (ws.map wd).mergeSort leD = (sortW ws).map wd := by
    unfold sortW
    rw [List.map_mergeSort (r := leW) (s := leD) (f := wd) fun a _ b _ => rfl]
  simp only [fSortedD, alikeB_wds, plain_wds, depth60_wds, and_self, if_true, e]
def leanedR (d : D) (ws : List (List Str)) : RD := .ins 2 [.dat d, .lst ((ws.map fun w => w.map PyData.str).map lstR)]
theorem leanedR_fzv (d : D) (ws : List (List Str)) : (leanedR d ws).fzv = some (.ob 2 [d, .list (ws.map wd)]) := by
  have e := toDs_lstR (ws.map fun w => w.map PyData.str)
  have e2 : (ws.map fun w => w.map PyData.str).map PyData.list = ws.map wd := by rw [List.map_map]; rfl
  rw [e2] at e
  simp only [leanedR, RD.fzv, RD.toDs, RD.toD, e, Option.map_some]
  rfl
theorem asLsts_wds : ∀ ws : List (List Str), asLsts (ws.map wd) = some (ws.map fun w => w.map PyData.str)
  | [] => by simp only [List.map_nil, asLsts]
  | w :: r => by
    have := asLsts_wds r
    simp only [List.map_cons, asLsts, wd, asLst]
    rw [show (r.map wd) = r.map wd from rfl, this]
theorem new_leaned (k : Nat) (hk : 2 ≤ k) (fs : List FE) (env : VEnv) (d : D) (ws : List (List Str)) (hl : ws.length ≤ 100000) (h : evA fs env = .val [.sh d, .sh (.list (ws.map wd))]) : m_Leaned k fs env = .val (.rg (leanedR d ws)) := by
  have l : (ws.map wd).length ≤ 100000 := by rw [List.length_map]; exact hl
  have l2 : ([d, .list (ws.map wd)] : List D).length = (clsFlds 2).length := rfl
  simp only [m_Leaned, nwM_eq hk, h, RL.b, newM, dats, Option.map_some, mk2, if_pos l, asLsts_wds, if_pos l2]
  rfl
theorem contains_iff {ws : List (List Str)} {w : List Str} : ws.contains w = true ↔ w ∈ ws := by simp
theorem exT_sort (t : Tr) : exT t [] (sortW (slT t [])) = t.lean := exT_lean t [] _ fun s => by
  rw [List.nil_append, contains_iff, sortW_mem]
theorem sortW_len (ws : List (List Str)) : (sortW ws).length = ws.length := (sortW_perm ws).length_eq
theorem leaned_body (g1 g2 g3 : List SV → R) (g4 : List FE → FE) (td : D) (ws : List (List Str)) (ld : D) (v : SV) (h1 : g1 [.sh td] = .val (.sh .none)) (h2 : g2 [.sh td, .sh (.list [])] = .val (.ow (ws.map wd))) (h3 : g3 [.sh td, .sh (.list []), .sh (.list ((sortW ws).map wd))] = ok ld)
    (h4 : ∀ fs env, evA fs env = .val [.sh ld, .sh (.list ((sortW ws).map wd))] → g4 fs env = .val v) : b_leaned g1 g2 g3 g4 [some (.sh td), none] = .rt v := by
  have s := fSortedD_wds ws
  generalize ws.map wd = W at *
  generalize (sortW ws).map wd = S at *
  have h5 := h4 [calF 3 g3 [vVar 0, vLst [], vVar 1], vVar 1] [some (.sh td), some (.sh (.list S))] (by simp [h3])
  generalize hE : [calF 3 g3 [vVar 0, vLst [], vVar 1], vVar 1] = FS1 at *
  simp only [b_leaned, hE]
  simp [h1, h2, s, h5, -fSortedD]
theorem E_leaned (t : Tr) (k : Nat) (h : t.size ≤ 40) (hk : 70 ≤ k) (hk2 : k ≤ 900) (hh : t.heap = true) : m_leaned k [.sh t.d] = .val (.rg (leanedR t.lean.d (sortW (slT t [])))) := by
  obtain ⟨k, rfl⟩ : ∃ j, k = j + 1 := ⟨k - 1, by omega⟩
  have h1 := E_check_heap t k h (by omega)
  rw [if_pos hh] at h1
  have h2 := E_slanting t k (by omega) (by omega)
  have o1 := slT_ok t [] rfl
  have h3 := e_exchanged t [] (sortW (slT t [])) k (by omega) (by simp only [List.length_nil]; omega) rfl (sortW_ok o1)
  rw [exT_sort] at h3
  have sl := slT_len t []
  rw [m_leaned]
  exact run_rt _ _ _ _ _ rfl (leaned_body _ _ _ _ _ (slT t []) _ _ h1 h2 h3 fun fs env e => new_leaned k (by omega) fs env _ _ (by rw [sortW_len]; omega) e)
def knT : Tr → List Str → Tr
  | .lf, [] => .lf
  | .nd l x r, [] => .nd l x r
  | .lf, _ :: _ => .lf
  | .nd l _ r, s :: w => if s = sL then knT l w else if s = sR then knT r w else .lf
theorem knT_nil (t : Tr) : knT t [] = t := by cases t <;> rfl
theorem knT_lf : ∀ w : List Str, knT .lf w = .lf
  | [] => rfl
  | _ :: _ => rfl
theorem fNin_lr (s : Str) : fNin (.str s) (.tuple [.str sL, .str sR]) = rb (!(s == sL || s == sR)) := by
  have e : ([PyData.str sL, .str sR].any fun z => PyData.eqv z (.str s)) = (s == sL || s == sR) := by
    simp only [List.any_cons, List.any_nil, PyData.eqv, Bool.or_false]
    congr 1
    · by_cases h : s = sL
      · subst h; simp
      · rw [beq_eq_false_iff_ne.mpr h, beq_eq_false_iff_ne.mpr (Ne.symm h)]
    · by_cases h : s = sR
      · subst h; simp
      · rw [beq_eq_false_iff_ne.mpr h, beq_eq_false_iff_ne.mpr (Ne.symm h)]
  simp only [fNin, fInB, flatD, List.all_cons, List.all_nil, Bool.and_self, and_self, if_true, e]
theorem knot_lf (W : Option SV) (s : Str) : p_knot_at_1 [some (.sh (.tuple [])), W, some (.sh (.str s))] = .rt (.sh (.tuple [])) := by
  simp [p_knot_at_1]
theorem knot_nd (l r : D) (x : Int) (W : Option SV) (s : Str) : p_knot_at_1 [some (.sh (.tuple [l, .int x, r])), W, some (.sh (.str s))] = if s = sL then .nx [some (.sh l), W, some (.sh (.str s))] else if s = sR then .nx [some (.sh r), W, some (.sh (.str s))] else .rt (.sh (.tuple [])) := by
  have f := fNin_lr s
  simp only [sL, sR] at f ⊢
  by_cases h1 : s = ("left" : Str)
  · subst h1
    simp [p_knot_at_1, f, -fNin]
  · rw [if_neg h1]
    have b1 : (s == ("left" : Str)) = false := beq_eq_false_iff_ne.mpr h1
    by_cases h2 : s = ("right" : Str)
    · subst h2
      rw [b1] at f
      simp [p_knot_at_1, f, b1, -fNin]
    · have b2 : (s == ("right" : Str)) = false := beq_eq_false_iff_ne.mpr h2
      rw [if_neg h2]
      rw [b1, b2] at f
      simp [p_knot_at_1, f, -fNin]
theorem knot_go : ∀ (w : List Str) (t : Tr) (W z : Option SV), (∃ z', forL (tgN 2) p_knot_at_1 (w.map .str) [some (.sh t.d), W, z] = .nx [some (.sh (knT t w).d), W, z']) ∨ (forL (tgN 2) p_knot_at_1 (w.map .str) [some (.sh t.d), W, z] = .rt (.sh (.tuple [])) ∧ knT t w = .lf)
  | [], t, W, z => .inl ⟨z, by rw [knT_nil]; rfl⟩
  | s :: w, .lf, W, z => .inr ⟨by rw [List.map_cons]; exact forL_rt (env' := [some (.sh (.tuple [])), W, some (.sh (.str s))]) rfl (knot_lf W s), rfl⟩
  | s :: w, .nd l x r, W, z => by
    have e := knot_nd l.d r.d x W s
    rw [List.map_cons]
    by_cases h1 : s = sL
    · rw [if_pos h1] at e
      have k : knT (.nd l x r) (s :: w) = knT l w := by simp only [knT, if_pos h1]
      rw [forL_go (env' := [some (.sh (Tr.nd l x r).d), W, some (.sh (.str s))]) rfl e, k]
      exact knot_go w l W _
    · rw [if_neg h1] at e
      by_cases h2 : s = sR
      · rw [if_pos h2] at e
        have k : knT (.nd l x r) (s :: w) = knT r w := by simp only [knT, if_neg h1, if_pos h2]
        rw [forL_go (env' := [some (.sh (Tr.nd l x r).d), W, some (.sh (.str s))]) rfl e, k]
        exact knot_go w r W _
      · rw [if_neg h2] at e
        refine .inr ⟨forL_rt (env' := [some (.sh (Tr.nd l x r).d), W, some (.sh (.str s))]) rfl e, ?_⟩
        simp only [knT, if_neg h1, if_neg h2]
theorem e_knot_at (t : Tr) (w : List Str) (k : Nat) (hk : 1 ≤ k) : m_knot_at k [.sh t.d, .sh (wd w)] = ok (knT t w).d := by
  obtain ⟨k, rfl⟩ : ∃ j, k = j + 1 := ⟨k - 1, by omega⟩
  rw [m_knot_at]
  rcases knot_go w t (some (.sh (wd w))) none with ⟨z, e⟩ | ⟨e, h⟩
  · generalize (knT t w).d = K at *
    simp only [wd] at e ⊢
    simp [b_knot_at, e]
  · rw [h]
    simp only [wd] at e ⊢
    simp [b_knot_at, e, Tr.d]
theorem e_slants_any (t : Tr) (k : Nat) (h : t.size < k) : m_slants k [.sh t.d] = rb (slB t) := by
  obtain ⟨k, rfl⟩ : ∃ j, k = j + 1 := ⟨k - 1, by omega⟩
  cases t with
  | lf => simp [m_slants, b_slants, Tr.d, slB]
  | nd l x r =>
    simp only [Tr.size] at h
    exact e_slants l x r k (by omega)
theorem knT_size : ∀ (w : List Str) (t : Tr), (knT t w).size ≤ t.size
  | [], t => by rw [knT_nil]; exact Nat.le_refl _
  | s :: w, .lf => Nat.le_refl _
  | s :: w, .nd l x r => by
    have h1 := knT_size w l
    have h2 := knT_size w r
    simp only [knT]
    split
    · simp only [Tr.size]; omega
    · split
      · simp only [Tr.size]; omega
      · simp only [Tr.size]; omega
theorem slB_knT : ∀ (w : List Str) (t : Tr), slB (knT t w) = decide (w ∈ slT t [])
  | w, .lf => by rw [knT_lf]; simp [slB, slT]
  | [], .nd l x r => by
    rw [Bool.eq_iff_iff, decide_eq_true_eq, slT_nd]
    rw [knT_nil]
    show decide (l.rank < r.rank) = true ↔ _
    rw [decide_eq_true_eq]
    constructor
    · exact fun h => .inl ⟨rfl, h⟩
    · rintro (⟨_, h⟩ | ⟨v, e, _⟩ | ⟨v, e, _⟩)
      · exact h
      · cases e
      · cases e
  | s :: w, .nd l x r => by
    rw [Bool.eq_iff_iff, decide_eq_true_eq, slT_nd]
    simp only [knT]
    split
    · rename_i h
      subst h
      rw [slB_knT w l, decide_eq_true_eq]
      constructor
      · exact fun m => .inr (.inl ⟨w, rfl, m⟩)
      · rintro (⟨e, _⟩ | ⟨v, e, m⟩ | ⟨v, e, m⟩)
        · cases e
        · cases e; exact m
        · exact absurd (List.cons.inj e).1 lr_ne
    · rename_i h
      split
      · rename_i h2
        subst h2
        rw [slB_knT w r, decide_eq_true_eq]
        constructor
        · exact fun m => .inr (.inr ⟨w, rfl, m⟩)
        · rintro (⟨e, _⟩ | ⟨v, e, m⟩ | ⟨v, e, m⟩)
          · cases e
          · exact absurd (List.cons.inj e).1 (Ne.symm lr_ne)
          · cases e; exact m
      · rename_i h2
        constructor
        · intro z; simp [slB] at z
        · rintro (⟨e, _⟩ | ⟨v, e, m⟩ | ⟨v, e, m⟩)
          · cases e
          · exact absurd (List.cons.inj e).1 h
          · exact absurd (List.cons.inj e).1 h2
def slantR (w : List Str) : RD := .ins 1 [lstR (w.map .str)]
theorem slantR_fzv (w : List Str) : (slantR w).fzv = some (.ob 1 [wd w]) := by
  simp only [slantR, RD.fzv, RD.toDs, lstR, RD.toD, toDs_dat, Option.map_some]
  rfl
theorem new_slants (k : Nat) (hk : 2 ≤ k) (fs : List FE) (env : VEnv) (w : List Str) (h : evA fs env = .val [.sh (wd w)]) : m_Slants k fs env = .val (.rg (slantR w)) := by
  have l2 : ([wd w] : List D).length = (clsFlds 1).length := rfl
  simp only [wd] at h l2
  simp only [m_Slants, nwM_eq hk, h, RL.b, newM, dats, Option.map_some, mk1, if_pos l2]
  rfl
def judW : List (List Str) → RD
  | [] => .ins 0 []
  | w :: _ => slantR w
theorem judged_body (g1 g2 : List SV → R) (g3 : List FE → FE) (td : D) (ws : List (List Str)) (h1 : g1 [.sh td] = .val (.sh .none)) (h2 : g2 [.sh td, .sh (.list [])] = .val (.ow (ws.map wd))) (h3 : ∀ fs env w, evA fs env = .val [.sh (wd w)] → g3 fs env = .val (.rg (slantR w))) :
    b_judged g1 g2 g3 [some (.sh td), none] = .rt (.rg (judW ws)) := by
  cases ws with
  | nil =>
    simp only [List.map_nil] at h2
    simp [b_judged, h1, h2, judW]
  | cons w ws =>
    simp only [List.map_cons] at h2
    have h4 := h3 [op2 fIx (vVar 1) (vC (.int 0))] [some (.sh td), some (.sh (.list (wd w :: ws.map wd)))] w (by simp [wd])
    generalize ws.map wd = W at *
    generalize hE : [op2 fIx (vVar 1) (vC (.int 0))] = E at *
    simp only [b_judged, hE]
    simp [h1, h2, h4, judW]
def judR (t : Tr) : RD := judW (slT t [])
theorem E_judged (t : Tr) (k : Nat) (h : t.size ≤ 40) (hk : 70 ≤ k) (hk2 : k ≤ 900) (hh : t.heap = true) : m_judged k [.sh t.d] = .val (.rg (judR t)) := by
  obtain ⟨k, rfl⟩ : ∃ j, k = j + 1 := ⟨k - 1, by omega⟩
  have h1 := E_check_heap t k h (by omega)
  rw [if_pos hh] at h1
  have h2 := E_slanting t k (by omega) (by omega)
  rw [m_judged]
  exact run_rt _ _ _ _ _ rfl (judged_body _ _ _ _ (slT t []) h1 h2 fun fs env w e => new_slants k (by omega) fs env w e)
theorem Leans_shows (t : Tr) (k : Nat) (h : t.size + 2 < k) (hk : k ≤ 1000) : m_shows k 0 [.ob 0 [], .sh t.d] = rb t.leans := by
  obtain ⟨k, rfl⟩ : ∃ j, k = j + 1 := ⟨k - 1, by omega⟩
  have h2 := E_slanting t k (by omega) (by omega)
  have e : PyData.eqv (.list ((slT t []).map wd)) (.list []) = t.leans := by
    rw [eqv_lE, ← slT_leans]; cases slT t [] <;> rfl
  show m_Leans_shows (k + 1) _ = _
  rw [m_Leans_shows]
  generalize m_slanting k = g at *
  generalize (slT t []).map wd = W at *
  generalize t.leans = b at *
  simp [b_Leans_shows, h2] at e ⊢
  exact e
theorem Slants_shows (t : Tr) (w : List Str) (k : Nat) (h : t.size + 2 < k) : m_shows k 1 [.ob 1 [wd w], .sh t.d] = rb (slB (knT t w)) := by
  obtain ⟨k, rfl⟩ : ∃ j, k = j + 1 := ⟨k - 1, by omega⟩
  have h1 := e_knot_at t w k (by omega)
  have h2 := e_slants_any (knT t w) k (by have := knT_size w t; omega)
  show m_Slants_shows (k + 1) _ = _
  rw [m_Slants_shows]
  generalize m_slants k = g at *
  generalize m_knot_at k = g2 at *
  generalize (knT t w).d = K at *
  generalize wd w = W at *
  simp [b_Slants_shows, h1, h2]
def ltW (a b : List Str) : Bool := PySem.W.dataLt (wd a) (wd b)
theorem leW_eq (a b : List Str) : leW a b = !ltW b a := rfl
theorem ltW_irrefl (a : List Str) : ltW a a = false := PyProof.Rows.lex_irrefl _
theorem ltW_trans {a b c : List Str} (h1 : ltW a b = true) (h2 : ltW b c = true) : ltW a c = true := PyProof.Rows.lex_trans _ _ _ h1 h2
theorem ltW_neg {a c : List Str} (b : List Str) (h : ltW a c = true) : ltW a b = true ∨ ltW b c = true := PyProof.Rows.lex_negTrans _ _ _ h
theorem toks_inj : ∀ a b : List Str, PySem.W.keyToksAll (a.map .str) = PySem.W.keyToksAll (b.map .str) → a = b
  | [], [], _ => rfl
  | [], y :: b, h => by simp [PySem.W.keyToksAll] at h
  | x :: a, [], h => by simp [PySem.W.keyToksAll] at h
  | x :: a, y :: b, h => by
    simp only [List.map_cons, PySem.W.keyToksAll, PySem.W.keyToks, List.cons_append, List.nil_append, List.cons.injEq, true_and] at h
    obtain ⟨h1, h2⟩ := h
    have e : x = y := by
      cases x; cases y
      have := Sum.inr.inj h1
      simp only [Array.toList_inj] at this
      rw [this]
    rw [e, toks_inj a b h2]
theorem ltW_tot {a b : List Str} (h1 : ltW a b = false) (h2 : ltW b a = false) : a = b := by
  have := PyProof.Rows.lex_total _ _ h1 h2
  exact toks_inj a b this
theorem leW_trans (a b c : List Str) (h1 : leW a b = true) (h2 : leW b c = true) : leW a c = true := by
  rw [leW_eq] at *
  cases c1 : ltW c a with
  | false => rfl
  | true =>
    rcases ltW_neg b c1 with h | h
    · rw [h] at h2; exact absurd h2 (by decide)
    · rw [h] at h1; exact absurd h1 (by decide)
theorem leW_total (a b : List Str) : (leW a b || leW b a) = true := by
  rw [leW_eq, leW_eq]
  cases c1 : ltW b a with
  | false => rfl
  | true =>
    cases c2 : ltW a b with
    | false => rfl
    | true =>
      have := ltW_trans c1 c2
      rw [ltW_irrefl] at this
      exact absurd this (by decide)
def upW : List (List Str) → Bool
  | [] => true
  | [_] => true
  | a :: b :: r => ltW a b && upW (b :: r)
def nbW (f : List Str → List Str → Bool) : List (List Str) → List Bool
  | [] => []
  | [_] => []
  | a :: b :: r => f a b :: nbW f (b :: r)
theorem nbW_any : ∀ ws : List (List Str), (nbW (fun a b => !ltW a b) ws).any id = !upW ws
  | [] => rfl
  | [_] => rfl
  | a :: b :: r => by
    have := nbW_any (b :: r)
    simp only [nbW, upW, List.any_cons, this, id, Bool.not_and]
theorem upW_pair : ∀ {ws : List (List Str)}, upW ws = true → ws.Pairwise fun a b => ltW a b = true
  | [], _ => .nil
  | [_], _ => by simp
  | a :: b :: r, h => by
    simp only [upW, Bool.and_eq_true] at h
    have ih := upW_pair h.2
    refine .cons (fun c m => ?_) ih
    rcases List.mem_cons.mp m with rfl | m
    · exact h.1
    · exact ltW_trans h.1 (List.rel_of_pairwise_cons ih m)
theorem sortW_pair (ws : List (List Str)) : (sortW ws).Pairwise fun a b => leW a b = true := List.pairwise_mergeSort leW_trans leW_total ws
theorem up_of : ∀ {ws : List (List Str)}, (ws.Pairwise fun a b => leW a b = true) → (nbW (fun a b => a == b) ws).any id = false → upW ws = true
  | [], _, _ => rfl
  | [_], _, _ => rfl
  | a :: b :: r, h, h2 => by
    simp only [nbW, List.any_cons, Bool.or_eq_false_iff, id] at h2
    have h1 := List.rel_of_pairwise_cons h (List.mem_cons_self)
    simp only [upW, Bool.and_eq_true]
    refine ⟨?_, up_of (List.Pairwise.of_cons h) h2.2⟩
    cases c : ltW a b with
    | true => rfl
    | false =>
      rw [leW_eq, Bool.not_eq_true'] at h1
      rw [ltW_tot c h1] at h2
      simp at h2
theorem sortW_up {ws : List (List Str)} (h : upW ws = true) : sortW ws = ws := by
  refine List.mergeSort_of_pairwise ((upW_pair h).imp fun {a b} q => ?_)
  rw [leW_eq]
  cases c : ltW b a with
  | false => rfl
  | true =>
    have := ltW_trans q c
    rw [ltW_irrefl] at this
    exact absurd this (by decide)
theorem fGeD_wd (a b : List Str) : fGeD (wd a) (wd b) = rb (!ltW a b) := by
  simp only [fGeD, alike_wd, depth_wd]
  rfl
theorem zip_nb : ∀ ws : List (List Str), zipD (ws.map wd) ((ws.drop 1).map wd) = (ws.zip (ws.drop 1)).map fun p => .tuple [wd p.1, wd p.2]
  | [] => rfl
  | [_] => rfl
  | a :: b :: r => by
    have := zip_nb (b :: r)
    simp only [zipD, List.drop_succ_cons, List.drop_zero, List.map_cons, List.zipWith_cons_cons, List.zip_cons_cons] at this ⊢
    rw [this]
theorem nb_zip (f : List Str → List Str → Bool) : ∀ ws : List (List Str), (ws.zip (ws.drop 1)).map (fun p => PyData.bool (f p.1 p.2)) = (nbW f ws).map .bool
  | [] => rfl
  | [_] => rfl
  | a :: b :: r => by
    have := nb_zip f (b :: r)
    simp only [List.drop_succ_cons, List.drop_zero, List.zip_cons_cons, List.map_cons, nbW] at this ⊢
    rw [this]
def dueL (t u : Tr) (ws : List (List Str)) : Bool := upW ws && (ws.all fun w => decide (w ∈ slT t [])) && (decide (exT t [] ws = u) && u.leans)
theorem lc_nb (f : List Str → List Str → Bool) (op : D → D → R) (hf : ∀ a b, op (wd a) (wd b) = rb (f a b)) {env : VEnv} {i j : Nat} (ws : List (List Str)) (hs : ∀ a b : D, ∃ e, tg2 i j (.tuple [a, b]) env = some e ∧ e[i]? = some (some (.sh a)) ∧ e[j]? = some (some (.sh b))) : lcGo (tg2 i j) (vC (.bool true)) (op2 op (vVar i) (vVar j)) env (zipD (ws.map wd) ((ws.map wd).drop 1)) = some ((nbW f ws).map .bool) := by
  rw [← List.map_drop, zip_nb, ← nb_zip]
  refine lcGo_map _ _ _ fun p _ => ?_
  obtain ⟨e, h1, h2, h3⟩ := hs (wd p.1) (wd p.2)
  refine ⟨e, h1, rfl, ?_⟩
  have q := hf p.1 p.2
  generalize wd p.1 = A at *
  generalize wd p.2 = B at *
  simp [h2, h3, q]
theorem Leaned_body (g1 g2 g3 g4 : List SV → R) (td h xd : D) (ws : List (List Str)) (f : List Str → Bool) (b1 b2 : Bool) (W4 : List D) (ln : ws.length ≤ 1000) (h12 : ∀ w ∈ ws, ∃ kd, g1 [.sh td, .sh (wd w)] = ok kd ∧ g2 [.sh kd] = rb (f w)) (e3 : upW ws = true → ws.all f = true → g3 [.sh td, .sh (.list []), .sh (.list (ws.map wd))] = ok xd) (q : fEq xd h = rb b1)
    (e4 : b1 = true → g4 [.sh h, .sh (.list [])] = .val (.ow W4) ∧ PyData.eqv (.list W4) (.list []) = b2) :
    b_Leaned_shows g1 g2 g3 g4 [some (.ob 2 [h, .list (ws.map wd)]), some (.sh td), none, none, none] = .rt (.sh (.bool (upW ws && ws.all f && (b1 && b2)))) := by
  have l1 := lc_nb (fun a b => !ltW a b) fGeD fGeD_wd (env := [some (.ob 2 [h, .list (ws.map wd)]), some (.sh td), none, none, none]) (i := 2) (j := 3) ws fun a b => ⟨[some (.ob 2 [h, .list (ws.map wd)]), some (.sh td), some (.sh a), some (.sh b), none], by simp, rfl, rfl⟩
  have l2 := lcGo_map (t := tgN 4) (c := vC (.bool true)) (e := calF 1 g2 [calF 2 g1 [vVar 1, vVar 4]]) (env := [some (.ob 2 [h, .list (ws.map wd)]), some (.sh td), none, none, none]) wd (fun w => .bool (f w)) ws fun w hw => by
    obtain ⟨kd, a1, a2⟩ := h12 w hw
    refine ⟨[some (.ob 2 [h, .list (ws.map wd)]), some (.sh td), none, none, some (.sh (wd w))], rfl, rfl, ?_⟩
    generalize wd w = A at *
    simp [a1, a2]
  have e2 : ws.map (fun w => PyData.bool (f w)) = (ws.map f).map .bool := by rw [List.map_map]; rfl
  rw [e2] at l2
  have b0 := blsOf_map (nbW (fun a b => !ltW a b) ws)
  have b9 := blsOf_map (ws.map f)
  have a1 := nbW_any ws
  have a2 : (ws.map f).all id = ws.all f := by rw [List.all_map]; rfl
  have z1 : (zipD (ws.map wd) ((ws.map wd).drop 1)).length ≤ 1000000 := by
    unfold zipD; rw [List.length_zipWith, List.length_map]; omega
  have z2 : (ws.map wd).length ≤ 1000000 := by rw [List.length_map]; omega
  simp only [b_Leaned_shows]
  generalize (nbW (fun a b => !ltW a b) ws) = B1 at *
  generalize ws.map f = B2 at *
  generalize ws.all f = c2 at *
  generalize upW ws = c1 at *
  generalize ws.map wd = W at *
  generalize op2 fGeD (vVar 2) (vVar 3) = EE at *
  generalize calF 1 g2 [calF 2 g1 [vVar 1, vVar 4]] = EF at *
  rw [List.drop_one] at l1 z1
  cases c1
  · simp [l1, b0, a1, z1, -List.any_eq_true, -List.any_eq_false]
  · cases c2
    · simp [l1, b0, a1, z1, l2, b9, a2, z2, -List.any_eq_true, -List.any_eq_false, -List.all_eq_true, -List.all_eq_false]
    · cases b1
      · simp [l1, b0, a1, z1, l2, b9, a2, z2, e3 rfl rfl, q, -List.any_eq_true, -List.any_eq_false, -List.all_eq_true, -List.all_eq_false]
      · obtain ⟨q1, q2⟩ := e4 rfl
        simp [l1, b0, a1, z1, l2, b9, a2, z2, e3 rfl rfl, q, q1, q2, -List.any_eq_true, -List.any_eq_false, -List.all_eq_true, -List.all_eq_false]
theorem Leaned_shows (t u : Tr) (ws : List (List Str)) (k : Nat) (h : t.size ≤ 40) (hu : u.size ≤ 40) (hk : 50 ≤ k) (hk2 : k ≤ 900) (ln : ws.length ≤ 1000) (os : ws.all okW = true) : m_shows k 2 [.ob 2 [u.d, .list (ws.map wd)], .sh t.d] = rb (dueL t u ws) := by
  obtain ⟨k, rfl⟩ : ∃ j, k = j + 1 := ⟨k - 1, by omega⟩
  have e3 := e_exchanged t [] ws k (by omega) (by simp only [List.length_nil]; omega) rfl os
  have q := fEq_d (a := exT t [] ws) (b := u) (by rw [exT_size]; omega)
  have e4 := E_slanting u k (by omega) (by omega)
  have e5 : PyData.eqv (.list ((slT u []).map wd)) (.list []) = u.leans := by
    rw [eqv_lE, ← slT_leans]; cases slT u [] <;> rfl
  show m_Leaned_shows (k + 1) _ = _
  rw [m_Leaned_shows]
  exact run_rt _ _ _ _ _ rfl (Leaned_body _ _ _ _ t.d u.d _ ws (fun w => decide (w ∈ slT t [])) _ _ _ ln (fun w hw => ⟨(knT t w).d, e_knot_at t w k (by omega), by
    have := e_slants_any (knT t w) k (by have := knT_size w t; omega)
    rw [this, slB_knT]⟩) (fun _ _ => e3) q fun _ => ⟨e4, e5⟩)
theorem rngD_nat (n : Nat) : rngD 0 1 n = (List.range n).map fun (N : Nat) => PyData.int (N : Int) := by
  unfold rngD
  refine List.map_congr_left fun i _ => ?_
  simp
theorem seq_nx {a b : FS} {env e : VEnv} (h : a env = .nx e) : sSeq a b env = b e := by simp [sSeq, h]
theorem up_sort {ws : List (List Str)} (h : ws.Nodup) : upW (sortW ws) = true := by
  refine up_of (sortW_pair ws) ?_
  have n : (sortW ws).Nodup := (sortW_perm ws).nodup_iff.mpr h
  generalize sortW ws = S at n
  clear h
  match S, n with
  | [], _ => rfl
  | [_], _ => rfl
  | a :: b :: r, n => exact go a b r n
where go (a b : List Str) : ∀ (r : List (List Str)), (a :: b :: r).Nodup → (nbW (fun a b => a == b) (a :: b :: r)).any id = false
  | [], n => by
    have : a ≠ b := fun e => by subst e; simp at n
    simp [nbW, this]
  | c :: r, n => by
    have : a ≠ b := fun e => by subst e; simp at n
    have n2 := (List.nodup_cons.mp n).2
    have := go b c r n2
    simp only [nbW, List.any_cons, id, Bool.or_eq_false_iff, beq_eq_false_iff_ne] at this ⊢
    exact ⟨‹a ≠ b›, this⟩
theorem exT_nil : ∀ (t : Tr) (w : List Str), exT t w [] = t
  | .lf, _ => rfl
  | .nd l x r, w => by simp [exT, exT_nil l, exT_nil r]
theorem due_own (t : Tr) : dueL t t.lean (sortW (slT t [])) = true := by
  unfold dueL
  rw [up_sort (slT_nodup t), exT_sort, lean_leans]
  simp only [decide_true, Bool.and_true, Bool.true_and, List.all_eq_true, decide_eq_true_eq]
  exact fun w m => sortW_mem.mp m
theorem due_lean (t : Tr) (W : List (List Str)) (hu : upW W = true) : dueL t.lean t.lean W = W.isEmpty := by
  have e : slT t.lean [] = [] := by
    have := slT_leans t.lean
    rw [lean_leans] at this
    exact List.isEmpty_iff.mp this
  unfold dueL
  cases W with
  | nil => simp [exT_nil, lean_leans, upW]
  | cons w r => simp [e]
abbrev l9 : D := .list (List.replicate 9 (.str "left"))
def rkN : Tr → Nat
  | .lf => 0
  | .nd l _ r => 1 + min (rkN l) (rkN r)
theorem rkN_eq : ∀ t : Tr, t.rank = (rkN t : Int)
  | .lf => rfl
  | .nd l x r => by simp only [Tr.rank, rkN, rkN_eq l, rkN_eq r]; omega
theorem rkN_size : ∀ t : Tr, 2 ^ rkN t ≤ t.size + 1 := fun t => by
  have := rank_size t
  rwa [rkN_eq, Int.toNat_natCast] at this
theorem leans_nd {l r : Tr} {x : Int} : (Tr.nd l x r).leans = true ↔ rkN r ≤ rkN l ∧ l.leans = true ∧ r.leans = true := by
  simp only [Tr.leans, Bool.and_eq_true, decide_eq_true_eq, rkN_eq, and_assoc]
  constructor <;> rintro ⟨a, b, c⟩ <;> exact ⟨by omega, b, c⟩
theorem rkN_nd {l r : Tr} {x : Int} (h : rkN r ≤ rkN l) : rkN (.nd l x r) = rkN r + 1 := by simp only [rkN]; omega
def preS (ks r m : Nat) : Nat := ((List.range (m - r)).map fun i => manyN ks (r + i)).sum
theorem preS_self (ks r : Nat) : preS ks r r = 0 := by simp [preS]
theorem preS_step {ks r m : Nat} (h : r < m) : preS ks r m = manyN ks r + preS ks (r + 1) m := by
  unfold preS
  obtain ⟨d, rfl⟩ : ∃ d, m = r + 1 + d := ⟨m - (r + 1), by omega⟩
  rw [show r + 1 + d - r = d + 1 by omega, show r + 1 + d - (r + 1) = d by omega, List.range_succ_eq_map, List.map_cons, List.sum_cons, List.map_map]
  simp only [Nat.add_zero]
  congr 2
  refine List.map_congr_left fun i _ => ?_
  simp only [Function.comp]
  congr 1; omega
theorem preS_last {ks r m : Nat} (h : r ≤ m) : preS ks r (m + 1) = preS ks r m + manyN ks m := by
  unfold preS
  rw [show m + 1 - r = (m - r) + 1 by omega, List.range_succ, List.map_append, List.sum_append]
  simp only [List.map_cons, List.map_nil, List.sum_cons, List.sum_nil, Nat.add_zero]
  rw [show r + (m - r) = m by omega]
theorem preS_mono {ks r m n : Nat} (h : r ≤ m) (h2 : m ≤ n) : preS ks r m ≤ preS ks r n := by
  induction n with
  | zero => rw [show m = 0 by omega]; exact Nat.le_refl _
  | succ n ih =>
    by_cases c : m = n + 1
    · rw [c]; exact Nat.le_refl _
    · have := ih (by omega)
      rw [preS_last (by omega)]
      omega
theorem least_split : ∀ (d : Nat) {ks r m : Nat}, m = r + d → m ≤ 8 → 2 ^ m ≤ 2 * (ks + 1) → leastN ks r = preS ks r m + leastN ks m
  | 0, ks, r, m, h, _, _ => by
    rw [show m = r by omega, preS_self]; omega
  | d + 1, ks, r, m, h, h8, hp => by
    have p : 2 ^ (r + 1) ≤ 2 ^ m := Nat.pow_le_pow_right (by decide) (by omega)
    rw [Nat.pow_succ] at p
    have ih := least_split d (ks := ks) (r := r + 1) (m := m) (by omega) h8 hp
    rw [leastN_step (by omega) (by omega), preS_step (by omega), ih]
    omega
theorem rkN_le {t : Tr} (h : t.size ≤ 40) : rkN t ≤ 5 := by
  have := rkN_size t
  have a : ¬ 6 ≤ rkN t := fun c => by
    have := Nat.pow_le_pow_right (n := 2) (by decide) c
    omega
  omega
theorem tS_mono {ma h m n : Nat} (c : m ≤ n) : tS ma h m ≤ tS ma h n := by
  induction n with
  | zero => rw [show m = 0 by omega]; exact Nat.le_refl _
  | succ n ih =>
    by_cases e : m = n + 1
    · rw [e]; exact Nat.le_refl _
    · have := ih (by omega)
      rw [tS_succ]; omega
def innT : Tr → Nat
  | .lf => 0
  | .nd l _ r => tS (l.size + r.size + 1) (rkN r) l.size + (preS l.size (rkN r) (rkN l) + innT l) * manyN r.size (rkN r) + innT r
def numT (t : Tr) (r : Nat) : Nat := preS t.size r (rkN t) + innT t
theorem num_lt' {t : Tr} {r : Nat} (h : t.size ≤ 40) (hr : r ≤ rkN t) (hi : innT t < manyN t.size (rkN t)) : numT t r < leastN t.size r := by
  have h5 := rkN_le h
  have hs := rkN_size t
  rw [least_split (rkN t - r) (ks := t.size) (r := r) (m := rkN t) (by omega) (by omega) (by omega), leastN_step (by omega) (by omega)]
  unfold numT
  omega
theorem off_lt {a b L F : Nat} (ha : a < L) (hb : b < F) : a * F + b < F * L := by
  have : (a + 1) * F ≤ L * F := Nat.mul_le_mul_right _ ha
  rw [Nat.add_mul, Nat.one_mul] at this
  rw [Nat.mul_comm F L]
  omega
theorem inn_lt : ∀ t : Tr, t.size ≤ 40 → t.leans = true → innT t < manyN t.size (rkN t)
  | .lf, _, _ => by decide +kernel
  | .nd l x r, h, hl => by
    simp only [Tr.size] at h
    obtain ⟨h1, h2, h3⟩ := leans_nd.mp hl
    have il := inn_lt l (by omega) h2
    have ir := inn_lt r (by omega) h3
    have nl := num_lt' (r := rkN r) (by omega) h1 il
    rw [rkN_nd h1]
    have ek : (Tr.nd l x r).size = l.size + r.size + 1 := by simp only [Tr.size]; omega
    rw [ek, ← tS_all (by omega)]
    have m := tS_mono (ma := l.size + r.size + 1) (h := rkN r) (m := l.size + 1) (n := l.size + r.size + 1) (by omega)
    rw [tS_succ, show l.size + r.size + 1 - 1 - l.size = r.size by omega] at m
    have o := off_lt nl ir
    unfold numT at o
    simp only [innT]
    omega
theorem num_lt {t : Tr} {r : Nat} (h : t.size ≤ 40) (hl : t.leans = true) (hr : r ≤ rkN t) : numT t r < leastN t.size r := num_lt' h hr (inn_lt t h hl)
theorem find_m : ∀ (d ks r v : Nat), r + d = 8 → ks ≤ 40 → v < leastN ks r → ∃ m, r ≤ m ∧ m ≤ 7 ∧ preS ks r m ≤ v ∧ v - preS ks r m < manyN ks m
  | 0, ks, r, v, h, hk, hv => by
    rw [leastN_stop (h := r) (by rw [show r = 8 by omega]; omega)] at hv
    omega
  | d + 1, ks, r, v, h, hk, hv => by
    by_cases c : 2 ^ r - 1 ≤ ks
    · rw [leastN_step (by omega) c] at hv
      by_cases c2 : v < manyN ks r
      · exact ⟨r, Nat.le_refl _, by omega, by rw [preS_self]; omega, by rw [preS_self]; omega⟩
      · obtain ⟨m, a1, a2, a3, a4⟩ := find_m d ks (r + 1) (v - manyN ks r) (by omega) hk (by omega)
        refine ⟨m, by omega, a2, ?_, ?_⟩
        · rw [preS_step (by omega)]; omega
        · rw [preS_step (by omega)]
          rw [show v - (manyN ks r + preS ks (r + 1) m) = v - manyN ks r - preS ks (r + 1) m by omega]
          exact a4
    · rw [leastN_stop (by omega)] at hv
      omega
theorem find_l {ma h : Nat} : ∀ (m v : Nat), v < tS ma h m → ∃ lf, lf < m ∧ tS ma h lf ≤ v ∧ v < tS ma h (lf + 1)
  | 0, v, hv => by simp [tS] at hv
  | m + 1, v, hv => by
    by_cases c : v < tS ma h m
    · obtain ⟨lf, a, b, d⟩ := find_l m v c
      exact ⟨lf, by omega, b, d⟩
    · exact ⟨m, by omega, by omega, hv⟩
def zerK : Tr → Tr
  | .lf => .lf
  | .nd l _ r => .nd (zerK l) 0 (zerK r)
theorem surj_i : ∀ (n ks : Nat), ks ≤ n → ks ≤ 40 → ∀ (m v : Nat), v < manyN ks m → ∃ t : Tr, t.size = ks ∧ t.leans = true ∧ zerK t = t ∧ rkN t = m ∧ innT t = v
  | 0, ks, h, _, m, v, hv => by
    obtain rfl : ks = 0 := by omega
    cases m with
    | zero =>
      have : manyN 0 0 = 1 := by decide +kernel
      exact ⟨.lf, rfl, rfl, rfl, rfl, by simp only [innT]; omega⟩
    | succ m => rw [manyN_eq, if_pos (.inl rfl), if_neg (by omega)] at hv; omega
  | n + 1, ks, h, hk, m, v, hv => by
    have IH := surj_i n
    by_cases k0 : ks = 0
    · exact IH ks (by omega) hk m v hv
    cases m with
    | zero => rw [manyN_eq, if_pos (.inr rfl), if_neg (by omega)] at hv; omega
    | succ h' =>
      rw [← tS_all (by omega)] at hv
      obtain ⟨lf, a1, a2, a3⟩ := find_l ks v hv
      rw [tS_succ] at a3
      have far : 0 < manyN (ks - 1 - lf) h' := by
        rcases Nat.eq_zero_or_pos (manyN (ks - 1 - lf) h') with z | z
        · rw [z, Nat.zero_mul] at a3; omega
        · exact z
      have wq : (v - tS ks h' lf) / manyN (ks - 1 - lf) h' < leastN lf h' := by
        rw [Nat.div_lt_iff_lt_mul far, Nat.mul_comm]
        omega
      obtain ⟨m', b1, b2, b3, b4⟩ : ∃ m, h' ≤ m ∧ m ≤ 7 ∧ preS lf h' m ≤ (v - tS ks h' lf) / manyN (ks - 1 - lf) h' ∧ (v - tS ks h' lf) / manyN (ks - 1 - lf) h' - preS lf h' m < manyN lf m := by
        by_cases c8 : h' ≤ 8
        · exact find_m (8 - h') lf h' ((v - tS ks h' lf) / manyN (ks - 1 - lf) h') (by omega) (by omega) wq
        · rw [leastN_stop (by
            have : 2 ^ 9 ≤ 2 ^ h' := Nat.pow_le_pow_right (by decide) (by omega)
            omega)] at wq
          exact absurd wq (Nat.not_lt_zero _)
      obtain ⟨l, c1, c2, c3, c4, c5⟩ := IH lf (by omega) (by omega) m' _ b4
      obtain ⟨r, d1, d2, d3, d4, d5⟩ := IH (ks - 1 - lf) (by omega) (by omega) h' ((v - tS ks h' lf) % manyN (ks - 1 - lf) h') (Nat.mod_lt _ far)
      refine ⟨.nd l 0 r, by simp only [Tr.size]; omega, leans_nd.mpr ⟨by omega, c2, d2⟩, by simp only [zerK, c3, d3], by rw [rkN_nd (by omega), d4], ?_⟩
      simp only [innT]
      rw [c1, d1, d4, c4, c5, d5, show lf + (ks - 1 - lf) + 1 = ks by omega, show preS lf h' m' + ((v - tS ks h' lf) / manyN (ks - 1 - lf) h' - preS lf h' m') = (v - tS ks h' lf) / manyN (ks - 1 - lf) h' by omega]
      have := Nat.div_add_mod (v - tS ks h' lf) (manyN (ks - 1 - lf) h')
      rw [Nat.mul_comm] at this
      omega
theorem surj {ks v : Nat} (hk : ks ≤ 40) (hv : v < leastN ks 0) : ∃ t : Tr, t.size = ks ∧ t.leans = true ∧ zerK t = t ∧ numT t 0 = v := by
  obtain ⟨m, _, _, b3, b4⟩ := find_m 8 ks 0 v (by omega) hk hv
  obtain ⟨t, c1, c2, c3, c4, c5⟩ := surj_i ks ks (Nat.le_refl _) hk m _ b4
  exact ⟨t, c1, c2, c3, by unfold numT; rw [c1, c4, c5]; omega⟩
theorem zerK_rk : ∀ t : Tr, rkN (zerK t) = rkN t
  | .lf => rfl
  | .nd l x r => by simp only [zerK, rkN, zerK_rk l, zerK_rk r]
theorem range_flt (s : Nat) : ∀ d : Nat, (List.range (s + d)).filter (fun a => decide (a < s)) = List.range s
  | 0 => by
    rw [Nat.add_zero, List.filter_eq_self]
    intro a m
    simpa using List.mem_range.mp m
  | d + 1 => by
    rw [← Nat.add_assoc, List.range_succ, List.filter_append, range_flt s d]
    simp
theorem part_flt (ks h s : Nat) (c : s ≤ ks) : (partL ks h (List.range ks)).filter (fun p => decide (p.1 < s)) = partL ks h (List.range s) := by
  obtain ⟨d, rfl⟩ : ∃ d, ks = s + d := ⟨ks - s, by omega⟩
  unfold partL
  rw [List.filter_map, ← range_flt s d, List.filter_filter, List.filter_filter]
  refine congrArg _ ?_
  refine List.filter_congr fun a _ => ?_
  simp only [Function.comp]
  rw [Bool.and_comm]
theorem part_tS (ks h s : Nat) (c : s ≤ ks) : (((partL ks h (List.range ks)).filter fun p => decide (p.1 < s)).map (·.2)).sum = tS ks h s := by
  rw [part_flt ks h s c, part_sum]
  rfl
theorem num_go (g1 g2 g3 g4 g5 : List SV → R) (ld rd : D) (x : Int) (sl : Nat) (a1 a2 a3 a4 a8 a9 : Option SV) (h1 : g1 [.sh ld] = ri (sl : Nat)) : ∀ (L : List (Nat × Nat)) (acc : Nat) (z6 z7 : Option SV), ∃ y6 y7, forL (tg2 6 7) (p_number_in_1 g1 g2 g3 g4 g5) (L.map partD) [some (.sh (.tuple [ld, .int x, rd])), a1, a2, a3, a4, some (.sh (.int (acc : Nat))), z6, z7, a8, a9] = .nx [some (.sh (.tuple [ld, .int x, rd])), a1, a2, a3, a4, some (.sh (.int ((acc + ((L.filter fun p => decide (p.1 < sl)).map (·.2)).sum : Nat) : Int))), y6, y7, a8, a9]
  | [], acc, z6, z7 => ⟨z6, z7, by simp⟩
  | p :: L, acc, z6, z7 => by
    by_cases c : p.1 < sl
    · obtain ⟨y6, y7, e⟩ := num_go g1 g2 g3 g4 g5 ld rd x sl a1 a2 a3 a4 a8 a9 h1 L (acc + p.2) (some (.sh (.int (p.1 : Nat)))) (some (.sh (.int (p.2 : Nat))))
      refine ⟨y6, y7, ?_⟩
      have c' : (p.1 : Int) < (sl : Int) := by omega
      rw [List.map_cons, forL_go (env' := [some (.sh (.tuple [ld, .int x, rd])), a1, a2, a3, a4, some (.sh (.int (acc : Nat))), some (.sh (.int (p.1 : Nat))), some (.sh (.int (p.2 : Nat))), a8, a9]) (by simp [partD]) (e := [some (.sh (.tuple [ld, .int x, rd])), a1, a2, a3, a4, some (.sh (.int (acc + p.2 : Nat))), some (.sh (.int (p.1 : Nat))), some (.sh (.int (p.2 : Nat))), a8, a9]) (by simp [p_number_in_1, h1, c']), e]
      simp [c, Nat.add_assoc]
    · obtain ⟨y6, y7, e⟩ := num_go g1 g2 g3 g4 g5 ld rd x sl a1 a2 a3 a4 a8 a9 h1 L acc (some (.sh (.int (p.1 : Nat)))) (some (.sh (.int (p.2 : Nat))))
      refine ⟨y6, y7, ?_⟩
      have c' : ¬ (p.1 : Int) < (sl : Int) := by omega
      rw [List.map_cons, forL_go (env' := [some (.sh (.tuple [ld, .int x, rd])), a1, a2, a3, a4, some (.sh (.int (acc : Nat))), some (.sh (.int (p.1 : Nat))), some (.sh (.int (p.2 : Nat))), a8, a9]) (by simp [partD]) (e := [some (.sh (.tuple [ld, .int x, rd])), a1, a2, a3, a4, some (.sh (.int (acc : Nat))), some (.sh (.int (p.1 : Nat))), some (.sh (.int (p.2 : Nat))), a8, a9]) (by simp [p_number_in_1, h1, c']), e]
      simp [c]
theorem pre_lc (g3 : List SV → R) (td : D) (ks r m : Nat) (H : ∀ he, he < m → g3 [.sh (.int ks), .sh (.int he), tabV] = ri (manyN ks he : Nat)) : lcGo (tgN 9) (vC (.bool true)) (calF 3 g3 [vVar 3, vVar 9, vVar 2]) [some (.sh td), some (.sh (.int r)), some tabV, some (.sh (.int ks)), some (.sh (.int m)), none, none, none, none, none] (rngD r 1 (m - r)) = some (((List.range (m - r)).map fun i => manyN ks (r + i)).map fun n => PyData.int (n : Nat)) := by
  unfold rngD
  rw [List.map_map]
  refine lcGo_map (fun i : Nat => PyData.int ((r : Int) + (i : Int) * 1)) _ _ fun i hi => ?_
  have hi := List.mem_range.mp hi
  have e := H (r + i) (by omega)
  refine ⟨[some (.sh td), some (.sh (.int r)), some tabV, some (.sh (.int ks)), some (.sh (.int m)), none, none, none, none, some (.sh (.int ((r : Int) + (i : Int) * 1)))], rfl, rfl, ?_⟩
  have ei : ((r : Int) + (i : Int) * 1) = ((r + i : Nat) : Int) := by omega
  rw [ei]
  simp only [tabV] at e ⊢
  simp only [Function.comp]
  generalize ((r + i : Nat) : Int) = I at *
  simp [e]
theorem num_head (g1 g2 g3 g4 g5 : List SV → R) (td : D) (ks r m : Nat) (hr : r ≤ 8) (hm : m ≤ 8) (h1 : g1 [.sh td] = ri (ks : Nat)) (h2 : g2 [.sh td] = ri (m : Nat)) (H : ∀ he, he < m → g3 [.sh (.int ks), .sh (.int he), tabV] = ri (manyN ks he : Nat)) (rest : FS) (b5 : FE) (hb : b5 = cal1 fSum (vLc [9] (tgN 9) (itA iR2 [vVar 1, vVar 4]) (vC (.bool true)) (calF 3 g3 [vVar 3, vVar 9, vVar 2]))) :
    sSeq (sUnp (tg2 3 4) (vTup [calF 1 g1 [vVar 0], calF 1 g2 [vVar 0]])) (sSeq (sSet 5 b5) rest) [some (.sh td), some (.sh (.int r)), some tabV, none, none, none, none, none, none, none] = rest [some (.sh td), some (.sh (.int r)), some tabV, some (.sh (.int ks)), some (.sh (.int m)), some (.sh (.int (preS ks r m : Nat))), none, none, none, none] := by
  have l := pre_lc g3 td ks r m H
  refine (seq_nx (e := [some (.sh td), some (.sh (.int r)), some tabV, some (.sh (.int ks)), some (.sh (.int m)), none, none, none, none, none]) ?_).trans ?_
  · simp [h1, h2]
  refine seq_nx ?_
  subst hb
  have i1 : itA iR2 [vVar 1, vVar 4] [some (.sh td), some (.sh (.int r)), some tabV, some (.sh (.int ks)), some (.sh (.int m)), none, none, none, none, none] = .val (rngD r 1 (m - r)) := by
    have e : ((m : Int) - (r : Int)).toNat = m - r := by omega
    have b1 : (-1000000 : Int) ≤ (r : Int) ∧ (r : Int) ≤ 1000000 := by omega
    have b2 : (-1000000 : Int) ≤ (m : Int) ∧ (m : Int) ≤ 1000000 := by omega
    simp only [tabV]
    simp [e]
    omega
  have n1 : (rngD (r : Int) 1 (m - r)).length ≤ 1000000 := by unfold rngD; rw [List.length_map, List.length_range]; omega
  have e2 : (((List.range (m - r)).map fun i => manyN ks (r + i)).map fun n => PyData.int (n : Nat)) = (((List.range (m - r)).map fun i => manyN ks (r + i)).map fun n : Nat => (n : Int)).map PyData.int := by rw [List.map_map, List.map_map, List.map_map]; rfl
  rw [e2] at l
  have s := sum_ints ((List.range (m - r)).map fun i => manyN ks (r + i))
  have io := intsOf_map (((List.range (m - r)).map fun i => manyN ks (r + i)).map fun n : Nat => (n : Int))
  have l' : lcGo (tgN 9) (vC (.bool true)) (calF 3 g3 [vVar 3, vVar 9, vVar 2]) (wipeE [some (.sh td), some (.sh (.int r)), some tabV, some (.sh (.int ks)), some (.sh (.int m)), none, none, none, none, none] [9]) (rngD r 1 (m - r)) = some ((((List.range (m - r)).map fun i => manyN ks (r + i)).map fun n : Nat => (n : Int)).map PyData.int) := l
  have v : vLc [9] (tgN 9) (itA iR2 [vVar 1, vVar 4]) (vC (.bool true)) (calF 3 g3 [vVar 3, vVar 9, vVar 2]) [some (.sh td), some (.sh (.int r)), some tabV, some (.sh (.int ks)), some (.sh (.int m)), none, none, none, none, none] = .val (.ow ((((List.range (m - r)).map fun i => manyN ks (r + i)).map fun n : Nat => (n : Int)).map PyData.int)) := by
    simp only [vLc, i1, n1, if_true, l']
  unfold preS
  generalize ((List.range (m - r)).map fun i => manyN ks (r + i)) = NN at *
  generalize (NN.map fun n : Nat => (n : Int)) = II at *
  generalize vLc [9] (tgN 9) (itA iR2 [vVar 1, vVar 4]) (vC (.bool true)) (calF 3 g3 [vVar 3, vVar 9, vVar 2]) = VV at *
  simp only [tabV] at *
  simp [v, io, s]
theorem num_body (g1 g2 g3 g4 g5 : List SV → R) (ld rd : D) (x : Int) (ks r h sl sr a b : Nat) (hr : r ≤ 8) (hm : h + 1 ≤ 8) (hsl : sl ≤ ks) (h1 : g1 [.sh (.tuple [ld, .int x, rd])] = ri (ks : Nat)) (h2 : g2 [.sh (.tuple [ld, .int x, rd])] = ri (h + 1 : Nat)) (H : ∀ he, he < h + 1 → g3 [.sh (.int ks), .sh (.int he), tabV] = ri (manyN ks he : Nat)) (h4 : g4 [.sh (.int ks), .sh (.int (h + 1 : Nat)), tabV] = .val (.ow ((partL ks h (List.range ks)).map partD)))
    (hl : g1 [.sh ld] = ri (sl : Nat)) (hrr : g1 [.sh rd] = ri (sr : Nat)) (hf : g3 [.sh (.int sr), .sh (.int h), tabV] = ri (manyN sr h : Nat)) (ha : g5 [.sh ld, .sh (.int h), tabV] = ri (a : Nat)) (hb : g5 [.sh rd, .sh (.int h), tabV] = ri (b : Nat)) (mo : mulOk (a : Int) (manyN sr h : Int) = true) :
    b_number_in g1 g2 g3 g4 g5 [some (.sh (.tuple [ld, .int x, rd])), some (.sh (.int r)), some tabV, none, none, none, none, none, none, none] = .rt (.sh (.int ((preS ks r (h + 1) + tS ks h sl + a * manyN sr h + b : Nat) : Int))) := by
  unfold b_number_in
  refine (num_head g1 g2 g3 g4 g5 _ ks r (h + 1) hr hm h1 h2 H _ _ rfl).trans ?_
  obtain ⟨y6, y7, e⟩ := num_go g1 g2 g3 g4 g5 ld rd x sl (some (.sh (.int r))) (some tabV) (some (.sh (.int ks))) (some (.sh (.int (h + 1 : Nat)))) none none hl (partL ks h (List.range ks)) (preS ks r (h + 1)) none none
  rw [part_tS ks h sl hsl] at e
  generalize p_number_in_1 g1 g2 g3 g4 g5 = PP at *
  generalize (partL ks h (List.range ks)).map partD = PD at *
  refine (seq_nx (e := [some (.sh (.tuple [ld, .int x, rd])), some (.sh (.int r)), some tabV, some (.sh (.int ks)), some (.sh (.int (h + 1 : Nat))), some (.sh (.int (preS ks r (h + 1) : Nat))), none, none, none, none]) ?_).trans ?_
  · simp
  refine (seq_nx (e := _) (by
    have i1 : itD iL (calF 3 g4 [vVar 3, vVar 4, vVar 2]) [some (.sh (.tuple [ld, .int x, rd])), some (.sh (.int r)), some tabV, some (.sh (.int ks)), some (.sh (.int (h + 1 : Nat))), some (.sh (.int (preS ks r (h + 1) : Nat))), none, none, none, none] = .val PD := by
      simp only [tabV] at *
      generalize ((h + 1 : Nat) : Int) = I at *
      simp [h4]
    simp only [sFor, i1]
    exact e)).trans ?_
  have sI : ((h + 1 : Nat) : Int) - 1 = (h : Int) := by omega
  generalize ((h + 1 : Nat) : Int) = I at *
  generalize preS ks r (h + 1) = P0 at *
  generalize tS ks h sl = T0 at *
  generalize manyN sr h = F0 at *
  simp only [tabV] at *
  simp [hrr, hf, sI, ha, hb, mo]
theorem num_lf (g1 g2 g3 g4 g5 : List SV → R) (h1 : g1 [.sh (.tuple [])] = ri (0 : Nat)) (h2 : g2 [.sh (.tuple [])] = ri (0 : Nat)) : b_number_in g1 g2 g3 g4 g5 [some (.sh (.tuple [])), some (.sh (.int (0 : Nat))), some tabV, none, none, none, none, none, none, none] = .rt (.sh (.int (0 : Nat))) := by
  unfold b_number_in
  refine (num_head g1 g2 g3 g4 g5 _ 0 0 0 (by omega) (by omega) h1 h2 (fun he z => absurd z (by omega)) _ _ rfl).trans ?_
  generalize p_number_in_1 g1 g2 g3 g4 g5 = PP at *
  have : preS 0 0 0 = 0 := rfl
  rw [this]
  simp
theorem num_bits {n : Nat} {ks : Nat} (hk : ks ≤ 40) (h : n < leastN ks 0 ∨ ∃ r, n < leastN ks r) : bits (n : Int) ≤ 400 := by
  have : ∃ r, n < leastN ks r := h.elim (fun h => ⟨0, h⟩) id
  obtain ⟨r, h⟩ := this
  have b := least_bits (ks := ks) (r := r) hk
  refine PySem.intBits_le_iff.mpr ?_
  have := PySem.intBits_le_iff.mp b
  simp only [Int.natAbs_natCast] at this ⊢
  omega
theorem E_number_in : ∀ (t : Tr) (k r : Nat), t.size ≤ 40 → t.leans = true → r ≤ rkN t → 3 * t.size + 5 < k → m_number_in k [.sh t.d, .sh (.int (r : Nat)), tabV] = ri (numT t r : Nat)
  | .lf, k, r, _, _, hr, hk => by
    obtain ⟨k, rfl⟩ : ∃ j, k = j + 1 := ⟨k - 1, by omega⟩
    obtain rfl : r = 0 := by simp only [rkN] at hr; omega
    rw [m_number_in]
    have a1 := e_size_of .lf k (by simp only [Tr.size] at *; omega)
    have a2 := e_rank_of .lf k (by simp only [Tr.size] at *; omega)
    simp only [Tr.d] at *
    exact run_rt _ _ _ _ _ rfl (num_lf _ _ _ _ _ a1 a2)
  | .nd l x r', k, r, h, hl, hr, hk => by
    obtain ⟨k, rfl⟩ : ∃ j, k = j + 1 := ⟨k - 1, by omega⟩
    obtain ⟨h1, h2, h3⟩ := leans_nd.mp hl
    have h5 := rkN_le h
    rw [rkN_nd h1] at hr h5
    have a1 := e_size_of (.nd l x r') k (by omega)
    have a2 := e_rank_of (.nd l x r') k (by omega)
    rw [rkN_eq, rkN_nd h1] at a2
    have es : (Tr.nd l x r').size = l.size + r'.size + 1 := by simp only [Tr.size]; omega
    rw [es] at a1 h hk
    have b1 := e_size_of l k (by omega)
    have b2 := e_size_of r' k (by omega)
    have c1 := E_number_in l k (rkN r') (by omega) h2 h1 (by omega)
    have c2 := E_number_in r' k (rkN r') (by omega) h3 (Nat.le_refl _) (by omega)
    have n1 := num_lt (r := rkN r') (by omega) h2 h1
    have mo : mulOk (numT l (rkN r') : Int) (manyN r'.size (rkN r') : Int) = true := mulOk_bits (num_bits (ks := l.size) (by omega) (.inr ⟨_, n1⟩)) (many_bits (by omega)) (by omega)
    rw [m_number_in]
    simp only [Tr.d] at *
    have := num_body _ _ _ _ _ l.d r'.d x (l.size + r'.size + 1) r (rkN r') l.size r'.size (numT l (rkN r')) (numT r' (rkN r')) (by omega) (by omega) (by omega) a1 a2 (fun he hh => E_many k _ he h (by omega) (by omega)) (E_parted k _ _ h (by omega) (by omega)) b1 b2 (E_many k _ _ (by omega) (by omega) (by omega)) c1 c2 mo
    have q := run_rt 10 _ [.sh (.tuple [l.d, .int x, r'.d]), .sh (.int (r : Nat)), tabV] _ _ rfl this
    rw [q]
    unfold numT
    rw [es, rkN_nd h1, preS_self]
    simp only [innT]
    rw [show preS (l.size + r'.size + 1) r (rkN r' + 1) + tS (l.size + r'.size + 1) (rkN r') l.size + (preS l.size (rkN r') (rkN l) + innT l) * manyN r'.size (rkN r') + (0 + innT r') = preS (l.size + r'.size + 1) r (rkN r' + 1) + (tS (l.size + r'.size + 1) (rkN r') l.size + (preS l.size (rkN r') (rkN l) + innT l) * manyN r'.size (rkN r') + innT r') by omega]
theorem sh_while (g1 g2 g3 : List SV → R) (ks m v : Nat) (hv : v < manyN ks m) (z4 z5 z6 z7 : Option SV) (H : ∀ he, he ≤ m → g1 [.sh (.int ks), .sh (.int he), tabV] = ri (manyN ks he : Nat)) : ∀ (d n r : Nat), r + d = m → d < n → sWhile n (p_shape_from_1 g1 g2 g3) (p_shape_from_2 g1 g2 g3) [some (.sh (.int ks)), some (.sh (.int r)), some (.sh (.int ((preS ks r m + v : Nat) : Int))), some tabV, z4, z5, z6, z7] = .nx [some (.sh (.int ks)), some (.sh (.int m)), some (.sh (.int (v : Nat))), some tabV, z4, z5, z6, z7]
  | 0, n, r, h, hn => by
    obtain ⟨n, rfl⟩ : ∃ j, n = j + 1 := ⟨n - 1, by omega⟩
    obtain rfl : r = m := by omega
    have e := H r (Nat.le_refl _)
    have c : ¬ ((manyN ks r : Nat) : Int) ≤ (v : Int) := by omega
    rw [preS_self, Nat.zero_add, sWhile_end]
    simp only [tabV] at *
    generalize manyN ks r = M at *
    simp [p_shape_from_1, e, c]
  | d + 1, n, r, h, hn => by
    obtain ⟨n, rfl⟩ : ∃ j, n = j + 1 := ⟨n - 1, by omega⟩
    have e := H r (by omega)
    have p := preS_step (ks := ks) (r := r) (m := m) (by omega)
    have ih := sh_while g1 g2 g3 ks m v hv z4 z5 z6 z7 H d n (r + 1) (by omega) (by omega)
    have c : ((manyN ks r : Nat) : Int) ≤ ((preS ks r m + v : Nat) : Int) := by rw [p]; omega
    have s : ((preS ks r m + v : Nat) : Int) - ((manyN ks r : Nat) : Int) = ((preS ks (r + 1) m + v : Nat) : Int) := by rw [p]; omega
    rw [sWhile_go (e := [some (.sh (.int ks)), some (.sh (.int (r + 1 : Nat))), some (.sh (.int ((preS ks (r + 1) m + v : Nat) : Int))), some tabV, z4, z5, z6, z7])]
    · exact ih
    · simp only [tabV] at *
      generalize manyN ks r = M at *
      generalize ((preS ks r m + v : Nat) : Int) = A at *
      simp [p_shape_from_1, e, c]
    · simp only [tabV] at *
      generalize manyN ks r = M at *
      generalize ((preS ks r m + v : Nat) : Int) = A at *
      generalize ((preS ks (r + 1) m + v : Nat) : Int) = A' at *
      simp [p_shape_from_2, e, s]
theorem sh_skip (g1 g2 g3 : List SV → R) (a0 a1 a3 a6 a7 : Option SV) (rest : List D) (v : Nat) : ∀ (L : List (Nat × Nat)) (z4 z5 : Option SV), ∃ y4 y5, forL (tg2 4 5) (p_shape_from_3 g1 g2 g3) (L.map partD ++ rest) [a0, a1, some (.sh (.int (((L.map (·.2)).sum + v : Nat) : Int))), a3, z4, z5, a6, a7] = forL (tg2 4 5) (p_shape_from_3 g1 g2 g3) rest [a0, a1, some (.sh (.int (v : Nat))), a3, y4, y5, a6, a7]
  | [], z4, z5 => ⟨z4, z5, by simp⟩
  | p :: L, z4, z5 => by
    obtain ⟨y4, y5, e⟩ := sh_skip g1 g2 g3 a0 a1 a3 a6 a7 rest v L (some (.sh (.int (p.1 : Nat)))) (some (.sh (.int (p.2 : Nat))))
    refine ⟨y4, y5, ?_⟩
    have s0 : (((p :: L).map (·.2)).sum + v : Nat) = p.2 + ((L.map (·.2)).sum + v) := by simp only [List.map_cons, List.sum_cons]; omega
    rw [s0]
    generalize (L.map (·.2)).sum + v = B at *
    have c : ¬ ((p.2 + B : Nat) : Int) < (p.2 : Int) := by omega
    have s : ((p.2 + B : Nat) : Int) - (p.2 : Int) = (B : Int) := by omega
    rw [List.map_cons, List.cons_append, forL_go (env' := [a0, a1, some (.sh (.int ((p.2 + B : Nat) : Int))), a3, some (.sh (.int (p.1 : Nat))), some (.sh (.int (p.2 : Nat))), a6, a7]) (by simp [partD]) (e := [a0, a1, some (.sh (.int (B : Nat))), a3, some (.sh (.int (p.1 : Nat))), some (.sh (.int (p.2 : Nat))), a6, a7]) (by
      generalize ((p.2 + B : Nat) : Int) = PB at *
      simp [p_shape_from_3, c, s]), e]
theorem sh_hit (g1 g2 g3 : List SV → R) (ks h sl sr off P a b : Nat) (ld rd : D) (z4 z5 a6 a7 : Option SV) (hk : ks - 1 - sl = sr) (hks : sl < ks) (ho : off < P) (hf : g1 [.sh (.int sr), .sh (.int h), tabV] = ri (manyN sr h : Nat)) (f0 : 0 < manyN sr h) (fb : manyN sr h < 2 ^ 400) (q1 : off / manyN sr h = a) (q2 : off % manyN sr h = b) (hl : g3 [.sh (.int sl), .sh (.int h), .sh (.int a), tabV] = ok ld) (hr : g3 [.sh (.int sr), .sh (.int h), .sh (.int b), tabV] = ok rd) :
    p_shape_from_3 g1 g2 g3 [some (.sh (.int ks)), some (.sh (.int (h + 1 : Nat))), some (.sh (.int (off : Nat))), some tabV, some (.sh (.int (sl : Nat))), some (.sh (.int (P : Nat))), a6, a7] = .rt (.sh (.tuple [ld, .int 0, rd])) := by
  have c : (off : Int) < (P : Int) := by omega
  have sI : ((h + 1 : Nat) : Int) - 1 = (h : Int) := by omega
  have sK : (ks : Int) - 1 - (sl : Int) = (sr : Int) := by omega
  have f0' : (0 : Int) < (manyN sr h : Nat) := by omega
  have fb' : ((manyN sr h : Nat) : Int) < 2 ^ 400 := by omega
  have d1 : (off : Int) / (manyN sr h : Nat) = (a : Int) := by rw [← q1]; push_cast; rfl
  have d2 : (off : Int) % (manyN sr h : Nat) = (b : Int) := by rw [← q2]; push_cast; rfl
  generalize ((manyN sr h : Nat) : Int) = F at *
  generalize ((h + 1 : Nat) : Int) = I at *
  simp only [tabV] at *
  have t1 : fDivW (.int (off : Nat)) (.int F) = ri (a : Nat) := by simp only [fDivW]; rw [if_pos ⟨f0', fb'⟩, d1]
  have t2 : fMod (.int (off : Nat)) (.int F) = ri (b : Nat) := by simp only [fMod]; rw [if_pos f0', d2]
  simp [p_shape_from_3, c, sI, sK, hf, t1, t2, hl, hr, -fDivW, -fMod]
theorem range_cut {s ks : Nat} (h : s < ks) : ∃ B, List.range ks = List.range s ++ s :: B := by
  obtain ⟨d, rfl⟩ : ∃ d, ks = s + (d + 1) := ⟨ks - s - 1, by omega⟩
  refine ⟨(List.range d).map fun i => s + (i + 1), ?_⟩
  rw [List.range_add, List.range_succ_eq_map, List.map_cons, List.map_map]
  rfl
theorem sh_body (g1 g2 g3 : List SV → R) (ks r h sl sr off a b : Nat) (ld rd : D) (hr8 : r ≤ h + 1) (h8 : h ≤ 8) (hk : ks - 1 - sl = sr) (hks : sl < ks) (ho : off < manyN sr h * leastN sl h) (hv : tS ks h sl + off < manyN ks (h + 1)) (H : ∀ he, he ≤ h + 1 → g1 [.sh (.int ks), .sh (.int he), tabV] = ri (manyN ks he : Nat)) (h2 : g2 [.sh (.int ks), .sh (.int (h + 1 : Nat)), tabV] = .val (.ow ((partL ks h (List.range ks)).map partD)))
    (hf : g1 [.sh (.int sr), .sh (.int h), tabV] = ri (manyN sr h : Nat)) (fb : manyN sr h < 2 ^ 400) (q1 : off / manyN sr h = a) (q2 : off % manyN sr h = b) (hl : g3 [.sh (.int sl), .sh (.int h), .sh (.int a), tabV] = ok ld) (hr : g3 [.sh (.int sr), .sh (.int h), .sh (.int b), tabV] = ok rd) :
    b_shape_from g1 g2 g3 [some (.sh (.int ks)), some (.sh (.int r)), some (.sh (.int ((preS ks r (h + 1) + (tS ks h sl + off) : Nat) : Int))), some tabV, none, none, none, none] = .rt (.sh (.tuple [ld, .int 0, rd])) := by
  have f0 : 0 < manyN sr h := by
    rcases Nat.eq_zero_or_pos (manyN sr h) with z | z
    · rw [z, Nat.zero_mul] at ho; omega
    · exact z
  unfold b_shape_from
  refine (seq_nx (sh_while g1 g2 g3 ks (h + 1) _ hv none none none none H (h + 1 - r) WF r (by omega) (by unfold WF; omega))).trans ?_
  have k0 : ((ks : Int) == 0) = false := beq_eq_false_iff_ne.mpr (by omega)
  refine (seq_nx (e := [some (.sh (.int ks)), some (.sh (.int (h + 1 : Nat))), some (.sh (.int ((tS ks h sl + off : Nat) : Int))), some tabV, none, none, none, none]) ?_).trans ?_
  · simp only [tabV]
    simp [fEq, PyData.depth, PyData.eqv, k0]
  obtain ⟨B, eB⟩ := range_cut hks
  have pl : (partL ks h (List.range ks)).map partD = (partL ks h (List.range sl)).map partD ++ partD (sl, manyN sr h * leastN sl h) :: (partL ks h B).map partD := by
    rw [eB]
    unfold partL
    rw [List.filter_append, List.map_append, List.map_append, List.filter_cons, if_pos (by rw [hk]; exact decide_eq_true f0), List.map_cons, List.map_cons, hk]
  have ts : ((partL ks h (List.range sl)).map (·.2)).sum = tS ks h sl := by rw [part_sum]; rfl
  obtain ⟨y4, y5, e⟩ := sh_skip g1 g2 g3 (some (.sh (.int ks))) (some (.sh (.int (h + 1 : Nat)))) (some tabV) none none (partD (sl, manyN sr h * leastN sl h) :: (partL ks h B).map partD) off (partL ks h (List.range sl)) none none
  rw [ts, ← pl] at e
  have hit := sh_hit g1 g2 g3 ks h sl sr off _ a b ld rd y4 y5 none none hk hks ho hf f0 fb q1 q2 hl hr
  have e' := e.trans (forL_rt (env' := [some (.sh (.int ks)), some (.sh (.int (h + 1 : Nat))), some (.sh (.int (off : Nat))), some tabV, some (.sh (.int (sl : Nat))), some (.sh (.int (manyN sr h * leastN sl h : Nat))), none, none]) (by simp [partD]) hit)
  have i1 : itD iL (calF 3 g2 [vVar 0, vVar 1, vVar 3]) [some (.sh (.int ks)), some (.sh (.int (h + 1 : Nat))), some (.sh (.int ((tS ks h sl + off : Nat) : Int))), some tabV, none, none, none, none] = .val ((partL ks h (List.range ks)).map partD) := by
    simp only [tabV] at *
    generalize ((h + 1 : Nat) : Int) = I at *
    generalize (partL ks h (List.range ks)).map partD = PD at *
    simp [h2]
  simp only [sSeq, sFor, i1, e']
theorem sh_lf (g1 g2 g3 : List SV → R) (H : g1 [.sh (.int (0 : Nat)), .sh (.int (0 : Nat)), tabV] = ri (1 : Nat)) : b_shape_from g1 g2 g3 [some (.sh (.int (0 : Nat))), some (.sh (.int (0 : Nat))), some (.sh (.int (0 : Nat))), some tabV, none, none, none, none] = .rt (.sh (.tuple [])) := by
  unfold b_shape_from
  have m0 : manyN 0 0 = 1 := by decide +kernel
  have w := sh_while g1 g2 g3 0 0 0 (by rw [m0]; omega) none none none none (fun he hh => by
    obtain rfl : he = 0 := Nat.le_zero.mp hh
    rw [m0]; exact H) 0 WF 0 rfl (by unfold WF; omega)
  rw [preS_self] at w
  refine (seq_nx w).trans ?_
  simp only [tabV]
  simp [fEq, PyData.depth, PyData.eqv]
theorem E_shape_from : ∀ (t : Tr) (k r : Nat), t.size ≤ 40 → t.leans = true → r ≤ rkN t → 3 * t.size + 5 < k → m_shape_from k [.sh (.int (t.size : Nat)), .sh (.int (r : Nat)), .sh (.int (numT t r : Nat)), tabV] = ok (zerK t).d
  | .lf, k, r, _, _, hr, hk => by
    obtain ⟨k, rfl⟩ : ∃ j, k = j + 1 := ⟨k - 1, by omega⟩
    obtain rfl : r = 0 := by simp only [rkN] at hr; omega
    have e := E_many k 0 0 (by omega) (by omega) (by simp only [Tr.size] at hk; omega)
    rw [show manyN 0 0 = 1 by decide +kernel] at e
    have n0 : numT .lf 0 = 0 := rfl
    rw [m_shape_from, n0]
    simp only [Tr.size, zerK, Tr.d]
    exact run_rt 8 _ _ _ _ rfl (sh_lf _ _ _ e)
  | .nd l x r', k, r, h, hl, hr, hk => by
    obtain ⟨k, rfl⟩ : ∃ j, k = j + 1 := ⟨k - 1, by omega⟩
    have il := inn_lt _ h hl
    obtain ⟨h1, h2, h3⟩ := leans_nd.mp hl
    have h5 := rkN_le h
    rw [rkN_nd h1] at hr h5 il
    have es : (Tr.nd l x r').size = l.size + r'.size + 1 := by simp only [Tr.size]; omega
    rw [es] at h hk il
    have c1 := E_shape_from l k (rkN r') (by omega) h2 h1 (by omega)
    have c2 := E_shape_from r' k (rkN r') (by omega) h3 (Nat.le_refl _) (by omega)
    have n1 := num_lt (r := rkN r') (by omega) h2 h1
    have ir := inn_lt r' (by omega) h3
    have n2 : numT r' (rkN r') = innT r' := by unfold numT; rw [preS_self]; omega
    have ofl := off_lt n1 ir
    have fb : manyN r'.size (rkN r') < 2 ^ 400 := by
      have := PySem.intBits_le_iff.mp (many_bits (ks := r'.size) (r := rkN r') (by omega))
      simpa using this
    have q1 : (numT l (rkN r') * manyN r'.size (rkN r') + innT r') / manyN r'.size (rkN r') = numT l (rkN r') := by
      rw [Nat.mul_comm, Nat.mul_add_div (by omega), Nat.div_eq_of_lt ir, Nat.add_zero]
    have q2 : (numT l (rkN r') * manyN r'.size (rkN r') + innT r') % manyN r'.size (rkN r') = numT r' (rkN r') := by
      rw [n2, Nat.mul_comm, Nat.mul_add_mod, Nat.mod_eq_of_lt ir]
    have inn : innT (.nd l x r') = tS (l.size + r'.size + 1) (rkN r') l.size + (numT l (rkN r') * manyN r'.size (rkN r') + innT r') := by
      simp only [innT, numT]; omega
    have nt : numT (.nd l x r') r = preS (l.size + r'.size + 1) r (rkN r' + 1) + (tS (l.size + r'.size + 1) (rkN r') l.size + (numT l (rkN r') * manyN r'.size (rkN r') + innT r')) := by
      rw [← inn]; unfold numT; rw [es, rkN_nd h1]
    rw [inn] at il
    have b := sh_body (m_many_of k) (m_parted k) (m_shape_from k) (l.size + r'.size + 1) r (rkN r') l.size r'.size (numT l (rkN r') * manyN r'.size (rkN r') + innT r') _ _ _ _ (by omega) (by omega) (by omega) (by omega) ofl il (fun he hh => E_many k _ he h (by omega) (by omega)) (E_parted k _ _ h (by omega) (by omega)) (E_many k _ _ (by omega) (by omega) (by omega)) fb q1 q2 c1 c2
    rw [m_shape_from, nt, es]
    simp only [zerK, Tr.d]
    exact run_rt 8 _ _ _ _ rfl b
theorem nof_body (g1 g2 g3 : List SV → R) (td : D) (n : Int) (h1 : g1 [.sh td] = .val (.sh .none)) (h2 : g2 [.sh td] = .val (.sh .none)) (h3 : g3 [.sh td, .sh (.int (0 : Nat)), tabV] = ri n) : b_number_of g1 g2 g3 [some (.sh td)] = .rt (.sh (.int n)) := by
  have h3' : g3 [.sh td, .sh (.int 0), .ob 101 []] = ri n := h3
  simp [b_number_of, h1, h2, h3']
theorem E_number_of (t : Tr) (k : Nat) (h : t.size ≤ 40) (hh : t.heap = true) (hl : t.leans = true) (hk : 150 ≤ k) (hk2 : k ≤ 900) : m_number_of k [.sh t.d] = ri (numT t 0 : Nat) := by
  obtain ⟨k, rfl⟩ : ∃ j, k = j + 1 := ⟨k - 1, by omega⟩
  have h1 := E_check_heap t k h (by omega)
  rw [if_pos hh] at h1
  have h2 := E_check_leaning t k (by omega) (by omega)
  rw [if_pos hl] at h2
  have h3 := E_number_in t k 0 h hl (Nat.zero_le _) (by omega)
  rw [m_number_of]
  exact run_rt 1 _ _ _ _ rfl (nof_body _ _ _ _ _ h1 h2 h3)
theorem sby_body (g1 g2 g3 g4 : List SV → R) (ks n m : Nat) (sd : D) (hn : n < m) (h1 : g1 [.sh (.int ks)] = .val (.sh .none)) (h2 : g2 [.sh (.int n)] = rb true) (h3 : g3 [.sh (.int ks), .sh (.int (0 : Nat)), tabV] = ri (m : Nat)) (h4 : g4 [.sh (.int ks), .sh (.int (0 : Nat)), .sh (.int n), tabV] = ok sd) : b_shape_by g1 g2 g3 g4 [some (.sh (.int ks)), some (.sh (.int n)), none] = .rt (.sh sd) := by
  have h3' : g3 [.sh (.int ks), .sh (.int 0), .ob 101 []] = ri (m : Nat) := h3
  have h4' : g4 [.sh (.int ks), .sh (.int 0), .sh (.int n), .ob 101 []] = ok sd := h4
  have c : (n : Int) < (m : Int) := by omega
  have c0 : (0 : Int) ≤ (n : Int) := by omega
  simp [b_shape_by, sTab, h1, h2, h3', h4', c, c0]
theorem E_shape_by (t : Tr) (k : Nat) (h : t.size ≤ 40) (hl : t.leans = true) (hk : 150 ≤ k) : m_shape_by k [.sh (.int (t.size : Nat)), .sh (.int (numT t 0 : Nat))] = ok (zerK t).d := by
  obtain ⟨k, rfl⟩ : ∃ j, k = j + 3 := ⟨k - 3, by omega⟩
  rw [m_shape_by]
  exact run_rt 3 _ _ _ _ rfl (sby_body _ _ _ _ _ _ (leastN t.size 0) _ (num_lt h hl (Nat.zero_le _)) (e_check_count k t.size h) (e_is_key _ _) (E_least _ _ 0 h (by omega) (by omega)) (E_shape_from t _ 0 h hl (Nat.zero_le _) (by omega)))
theorem zerK_top : ∀ t : Tr, geTop 0 (zerK t) = true
  | .lf => rfl
  | .nd l x r => by simp [zerK, geTop]
theorem zerK_heap : ∀ t : Tr, (zerK t).heap = true
  | .lf => rfl
  | .nd l x r => nd_heap.mpr ⟨zerK_top l, zerK_top r, zerK_heap l, zerK_heap r⟩
theorem same_shape {t u : Tr} {r : Nat} (hs : t.size = u.size) (h : t.size ≤ 40) (h1 : t.leans = true) (h2 : u.leans = true) (r1 : r ≤ rkN t) (r2 : r ≤ rkN u) (e : numT t r = numT u r) : zerK t = zerK u := by
  have a := E_shape_from t 200 r h h1 r1 (by omega)
  have b := E_shape_from u 200 r (by omega) h2 r2 (by omega)
  rw [hs, e, b] at a
  have q : (zerK u).d = (zerK t).d := by
    have := R.val.inj a
    exact SV.sh.inj this
  have d := eqv_d (zerK u) (zerK t)
  rw [q, eqv_d] at d
  have : decide (zerK t = zerK t) = true := decide_eq_true rfl
  rw [this] at d
  exact (of_decide_eq_true d.symm).symm
theorem num_disj {t u : Tr} {r : Nat} (hs : t.size = u.size) (h : t.size ≤ 40) (h1 : t.leans = true) (h2 : u.leans = true) (r1 : r ≤ rkN t) (r2 : r ≤ rkN u) (e : numT t r < numT u r) : rkN t < rkN u ∨ (rkN t = rkN u ∧ innT t < innT u) := by
  unfold numT at e
  rcases Nat.lt_trichotomy (rkN t) (rkN u) with c | c | c
  · exact .inl c
  · refine .inr ⟨c, ?_⟩
    rw [c, hs] at e; omega
  · have i := inn_lt u (by omega) h2
    have p := preS_last (ks := u.size) r2
    have m := preS_mono (ks := u.size) (r := r) (m := rkN u + 1) (n := rkN t) (by omega) (by omega)
    rw [hs] at e
    omega
def lnk (a b : Bn) : Bn := if b.key < a.key then .link a b else .link b a
theorem lnk_ok {a b : Bn} (ha : a.ok) (hb : b.ok) (h : a.ord = b.ord) : (lnk a b).ok ∧ (lnk a b).ord = a.ord + 1 := by
  unfold lnk
  split
  · exact ⟨⟨h, by omega, ha, hb⟩, by simp only [Bn.ord, h]⟩
  · exact ⟨⟨h.symm, by omega, hb, ha⟩, by simp only [Bn.ord]⟩
theorem lnk_keys (a b : Bn) : (lnk a b).keys.Perm (a.keys ++ b.keys) := by
  unfold lnk
  split
  · exact Bn.keys_link a b
  · exact (Bn.keys_link b a).trans List.perm_append_comm
theorem e_linked (a b : Bn) (k : Nat) (hk : 1 ≤ k) (h1 : a.ord ≤ 1000) (h2 : b.ord ≤ 1000) : m_linked k [.sh a.d, .sh b.d] = ok (lnk a b).d := by
  obtain ⟨k, rfl⟩ : ∃ j, k = j + 1 := ⟨k - 1, by omega⟩
  have c1 := a.cs_len
  have c2 := b.cs_len
  unfold lnk
  rw [m_linked]
  by_cases c : b.key < a.key
  · rw [if_pos c]
    have l : b.cs.length + 1 ≤ 1000000 := by omega
    have l' : 1 + b.cs.length ≤ 1000000 := by omega
    simp [Bn.d, Bn.key, Bn.cs, b_linked, c, l, l']
  · rw [if_neg c]
    have l : a.cs.length + 1 ≤ 1000000 := by omega
    have l' : 1 + a.cs.length ≤ 1000000 := by omega
    simp [Bn.d, Bn.key, Bn.cs, b_linked, c, l, l']
theorem copied_body (g : List SV → R) (key : Int) (cs : List D) (hl : cs.length ≤ 1000) (h : ∀ d ∈ cs, g [.sh d] = ok d) : b_copied g [some (.sh (.tuple [.int key, .list cs])), none] = .rt (.sh (.tuple [.int key, .list cs])) := by
  have e := lcGo_map (t := tgN 1) (c := vC (.bool true)) (e := calF 1 g [vVar 1]) (env := [some (.sh (.tuple [.int key, .list cs])), none]) (id : D → D) id cs fun d hd => by
    refine ⟨[some (.sh (.tuple [.int key, .list cs])), some (.sh d)], rfl, rfl, ?_⟩
    have := h d hd
    simp [this]
  rw [List.map_id] at e
  have l : cs.length ≤ 1000000 := by omega
  unfold b_copied
  generalize calF 1 g [vVar 1] = CC at *
  simp [e, l]
theorem e_copied : ∀ (n : Nat) (t : Bn) (k : Nat), t.ok → t.ord ≤ n → t.ord < k → t.ord ≤ 1000 → m_copied k [.sh t.d] = ok t.d
  | n, t, k, ho, hn, hk, h1 => by
    obtain ⟨k, rfl⟩ : ∃ j, k = j + 1 := ⟨k - 1, by omega⟩
    rw [m_copied]
    refine run_rt 2 _ _ _ _ rfl (copied_body _ t.key t.cs (by rw [t.cs_len]; exact h1) fun d hd => ?_)
    rw [t.cs_cl] at hd
    obtain ⟨o, mo, rfl⟩ := List.mem_map.mp hd
    obtain ⟨c1, c2⟩ := t.cl_ok ho o mo
    match n, hn with
    | 0, hn => omega
    | n + 1, hn => exact e_copied n o k c1 (by omega) (by omega) (by omega)
theorem pks_len2 : ∀ ps : List Bn, (∀ t ∈ ps, t.ok) → (pks ps).length = (ps.map fun t => 2 ^ t.ord).sum
  | [], _ => rfl
  | t :: r, h => by
    rw [pks_cons, List.length_append, Bn.keys_len t (h t List.mem_cons_self), List.map_cons, List.sum_cons, pks_len2 r fun x m => h x (List.mem_cons_of_mem _ m)]
theorem e_count_of (ps : List Bn) (k : Nat) (hk : 2 ≤ k) (hl : ps.length ≤ 1000) (h : ∀ t ∈ ps, t.ok ∧ t.ord ≤ 5) : m_count_of k [.sh (.list (ps.map Bn.d))] = ri ((pks ps).length : Nat) := by
  obtain ⟨k, rfl⟩ : ∃ j, k = j + 1 := ⟨k - 1, by omega⟩
  have e := lcGo_map (t := tgN 1) (c := vC (.bool true)) (e := op2 fShl (vC (.int 1)) (calF 1 (m_order_of k) [vVar 1])) (env := [some (.sh (.list (ps.map Bn.d))), none]) Bn.d (fun t => .int ((2 ^ t.ord : Nat) : Int)) ps fun t ht => by
    have q := E_order_of t k (by omega)
    have o5 := (h t ht).2
    refine ⟨[some (.sh (.list (ps.map Bn.d))), some (.sh t.d)], rfl, rfl, ?_⟩
    generalize t.d = T at *
    have p : (2 : Int) ^ t.ord = ((2 ^ t.ord : Nat) : Int) := by push_cast; rfl
    have o6 : (t.ord : Int) ≤ 1000000 := by omega
    simp [q, o6]
  have e2 : ps.map (fun t => PyData.int ((2 ^ t.ord : Nat) : Int)) = ((ps.map fun t => 2 ^ t.ord).map fun n : Nat => (n : Int)).map .int := by rw [List.map_map, List.map_map]; rfl
  rw [e2] at e
  have s := sum_ints (ps.map fun t => 2 ^ t.ord)
  have io := intsOf_map ((ps.map fun t => 2 ^ t.ord).map fun n : Nat => (n : Int))
  rw [pks_len2 ps fun t m => (h t m).1]
  have l : (ps.map Bn.d).length ≤ 1000000 := by rw [List.length_map]; omega
  rw [m_count_of]
  unfold b_count_of
  generalize (ps.map fun t => 2 ^ t.ord) = NN at *
  generalize (NN.map fun n : Nat => (n : Int)) = II at *
  generalize op2 fShl (vC (.int 1)) (calF 1 (m_order_of k) [vVar 1]) = CC at *
  generalize ps.map Bn.d = PD at *
  simp [e, l, io, s]
structure Jn (A : List Bn) (o : Nat) (F C : List Bn) (n : Nat) : Prop where
  fo : ∀ t ∈ F, t.ok ∧ t.ord < o
  fi : F.Pairwise fun a b => a.ord < b.ord
  co : ∀ t ∈ C, t.ok ∧ t.ord = o
  cl : C.length ≤ 1
  ky : (pks F ++ (pks C ++ pks (A.filter fun t => decide (o ≤ t.ord)))).Perm (pks A)
  ct : F.length + C.length + (A.filter fun t => decide (o ≤ t.ord)).length + n = A.length
theorem flt_split (A : List Bn) (o : Nat) : (A.filter fun t => decide (o ≤ t.ord)).Perm ((A.filter fun t => decide (t.ord = o)) ++ (A.filter fun t => decide (o + 1 ≤ t.ord))) := by
  induction A with
  | nil => exact .refl _
  | cons t A ih =>
    by_cases c : t.ord = o
    · simp only [List.filter_cons, c, Nat.le_refl, decide_true, if_true, show ¬ (o + 1 ≤ o) by omega, decide_false, Bool.false_eq_true, if_false, List.cons_append]
      exact ih.cons _
    · by_cases d : o ≤ t.ord
      · simp only [List.filter_cons, c, d, decide_true, if_true, show o + 1 ≤ t.ord by omega, decide_false, Bool.false_eq_true, if_false]
        exact (ih.cons _).trans List.perm_middle.symm
      · simp only [List.filter_cons, c, d, show ¬ (o + 1 ≤ t.ord) by omega, decide_false, Bool.false_eq_true, if_false]
        exact ih
theorem pks_perm {a b : List Bn} (h : a.Perm b) : (pks a).Perm (pks b) := h.flatMap_right _
def stepX (X : List Bn) : List Bn × List Bn × Nat := match X with
  | a :: b :: r => (r, [lnk a b], 1)
  | X => (X, [], 0)
theorem jn_step {A : List Bn} {o : Nat} {F C : List Bn} {n : Nat} (J : Jn A o F C n) (ha : ∀ t ∈ A, t.ok) (h2 : (A.filter fun t => decide (t.ord = o)).length ≤ 2) : Jn A (o + 1) (F ++ (stepX ((A.filter fun t => decide (t.ord = o)) ++ C)).1) (stepX ((A.filter fun t => decide (t.ord = o)) ++ C)).2.1 (n + (stepX ((A.filter fun t => decide (t.ord = o)) ++ C)).2.2) := by
  have hX : ∀ t ∈ (A.filter fun t => decide (t.ord = o)) ++ C, t.ok ∧ t.ord = o := fun t m => by
    rcases List.mem_append.mp m with m | m
    · obtain ⟨m1, m2⟩ := List.mem_filter.mp m
      exact ⟨ha t m1, of_decide_eq_true m2⟩
    · exact J.co t m
  have hl : ((A.filter fun t => decide (t.ord = o)) ++ C).length ≤ 3 := by
    rw [List.length_append]; have := J.cl; omega
  have sp := flt_split A o
  have kx : (pks F ++ (pks ((A.filter fun t => decide (t.ord = o)) ++ C) ++ pks (A.filter fun t => decide (o + 1 ≤ t.ord)))).Perm (pks A) := by
    refine List.Perm.trans (List.Perm.append_left _ ?_) J.ky
    have p := pks_perm sp
    rw [pks_app] at p ⊢
    refine List.Perm.trans ?_ (List.Perm.append_left _ p.symm)
    rw [List.append_assoc]
    refine (List.perm_append_comm_assoc _ _ _)
  have cx : F.length + ((A.filter fun t => decide (t.ord = o)) ++ C).length + (A.filter fun t => decide (o + 1 ≤ t.ord)).length + n = A.length := by
    have c := J.ct
    rw [sp.length_eq, List.length_append] at c
    rw [List.length_append]; omega
  generalize (A.filter fun t => decide (t.ord = o)) ++ C = X at *
  match X, hX, hl, kx, cx with
  | [], _, _, kx, cx =>
    refine ⟨fun t m => ?_, ?_, fun t m => absurd m List.not_mem_nil, by simp [stepX], by simpa [stepX, pks] using kx, by simp [stepX] at cx ⊢; omega⟩
    · simp only [stepX, List.append_nil] at m
      have := J.fo t m; exact ⟨this.1, by omega⟩
    · simp only [stepX, List.append_nil]; exact J.fi
  | [a], hX, _, kx, cx =>
    have ha := hX a List.mem_cons_self
    refine ⟨fun t m => ?_, ?_, fun t m => absurd m List.not_mem_nil, by simp [stepX], ?_, by simp [stepX] at cx ⊢; omega⟩
    · simp only [stepX] at m
      rcases List.mem_append.mp m with m | m
      · have := J.fo t m; exact ⟨this.1, by omega⟩
      · rw [List.mem_singleton.mp m]; exact ⟨ha.1, by omega⟩
    · simp only [stepX]
      refine List.pairwise_append.mpr ⟨J.fi, by simp, fun x mx y my => ?_⟩
      rw [List.mem_singleton.mp my]
      have := (J.fo x mx).2; omega
    · simp only [stepX]
      rw [pks_app, List.append_assoc]
      simpa [pks] using kx
  | a :: b :: r, hX, hl, kx, cx =>
    have ha := hX a List.mem_cons_self
    have hb := hX b (List.mem_cons_of_mem _ List.mem_cons_self)
    have lk := lnk_ok ha.1 hb.1 (by rw [ha.2, hb.2])
    have rl : r.length ≤ 1 := by simp only [List.length_cons] at hl; omega
    refine ⟨fun t m => ?_, ?_, fun t m => ?_, by simp [stepX], ?_, by simp [stepX] at cx ⊢; omega⟩
    · simp only [stepX] at m
      rcases List.mem_append.mp m with m | m
      · have := J.fo t m; exact ⟨this.1, by omega⟩
      · have := hX t (List.mem_cons_of_mem _ (List.mem_cons_of_mem _ m)); exact ⟨this.1, by omega⟩
    · simp only [stepX]
      refine List.pairwise_append.mpr ⟨J.fi, ?_, fun x mx y my => ?_⟩
      · match r, rl with
        | [], _ => exact .nil
        | [_], _ => simp
      · have h1 := (J.fo x mx).2
        have h2 := (hX y (List.mem_cons_of_mem _ (List.mem_cons_of_mem _ my))).2
        omega
    · simp only [stepX] at m
      rw [List.mem_singleton.mp m]
      exact ⟨lk.1, by rw [lk.2, ha.2]⟩
    · simp only [stepX]
      rw [pks_app, List.append_assoc]
      refine List.Perm.trans (List.Perm.append_left _ ?_) kx
      have e1 : pks [lnk a b] = (lnk a b).keys := by simp [pks]
      have e2 : pks (a :: b :: r) = a.keys ++ (b.keys ++ pks r) := by simp [pks]
      rw [e1, e2, ← List.append_assoc]
      refine List.Perm.append_right _ ?_
      refine List.perm_append_comm.trans ?_
      rw [← List.append_assoc]
      exact List.Perm.append_right _ (lnk_keys a b)
theorem lc_ord (g1 : List SV → R) (A : List Bn) (o : Nat) (h : ∀ t ∈ A, g1 [.sh t.d] = ri (t.ord : Nat)) (a0 a1 a2 a3 a4 a5 a7 : Option SV) : lcGo (tgN 8) (op2 fEq (calF 1 g1 [vVar 8]) (vVar 6)) (vVar 8) [a0, a1, a2, a3, a4, a5, some (.sh (.int (o : Nat))), a7, none] (A.map Bn.d) = some ((A.filter fun t => decide (t.ord = o)).map Bn.d) := by
  refine lcGo_filter Bn.d Bn.d (fun t => decide (t.ord = o)) A fun t ht => ?_
  have q := h t ht
  refine ⟨[a0, a1, a2, a3, a4, a5, some (.sh (.int (o : Nat))), a7, some (.sh t.d)], rfl, ?_, fun _ => ?_⟩
  · generalize t.d = T at *
    have e : ((t.ord : Int) == (o : Int)) = decide (t.ord = o) := by
      rw [Bool.eq_iff_iff, beq_iff_eq, decide_eq_true_eq]; omega
    simp [q, fEq, PyData.depth, PyData.eqv]
    rw [← e]
  · generalize t.d = T at *
    simp
theorem jn_model (g1 g2 : List SV → R) (A1 A2 : List Bn) (o n : Nat) (F C : List Bn) (hi z7 : Option SV) (hA : A1.length + A2.length ≤ 1000) (hF : F.length ≤ 1000) (hC : C.length ≤ 1) (h2 : ((A1 ++ A2).filter fun t => decide (t.ord = o)).length ≤ 2) (h1 : ∀ t ∈ A1 ++ A2, g1 [.sh t.d] = ri (t.ord : Nat)) (hl : ∀ a b, a ∈ ((A1 ++ A2).filter fun t => decide (t.ord = o)) ++ C → b ∈ ((A1 ++ A2).filter fun t => decide (t.ord = o)) ++ C → g2 [.sh a.d, .sh b.d] = ok (lnk a b).d) :
    ∃ y7, p_joinP_1 g1 g2 [some (.sh (.list (A1.map Bn.d))), some (.sh (.list (A2.map Bn.d))), some (.ow (F.map Bn.d)), some (.sh (.list (C.map Bn.d))), some (.sh (.int (n : Nat))), hi, some (.sh (.int (o : Nat))), z7, none] = .nx [some (.sh (.list (A1.map Bn.d))), some (.sh (.list (A2.map Bn.d))), some (.ow ((F ++ (stepX (((A1 ++ A2).filter fun t => decide (t.ord = o)) ++ C)).1).map Bn.d)), some (.sh (.list ((stepX (((A1 ++ A2).filter fun t => decide (t.ord = o)) ++ C)).2.1.map Bn.d))), some (.sh (.int ((n + (stepX (((A1 ++ A2).filter fun t => decide (t.ord = o)) ++ C)).2.2 : Nat) : Int))), hi, some (.sh (.int (o : Nat))), y7, none] := by
  have lc := lc_ord g1 (A1 ++ A2) o h1 (some (.sh (.list (A1.map Bn.d)))) (some (.sh (.list (A2.map Bn.d)))) (some (.ow (F.map Bn.d))) (some (.sh (.list (C.map Bn.d)))) (some (.sh (.int (n : Nat)))) hi z7
  have lx : (((A1 ++ A2).filter fun t => decide (t.ord = o)) ++ C).length ≤ 3 := by rw [List.length_append]; omega
  have lf : ((A1 ++ A2).filter fun t => decide (t.ord = o)).length ≤ 2 := h2
  have l0 : (A1.map Bn.d).length + (A2.map Bn.d).length ≤ 1000000 := by rw [List.length_map, List.length_map]; omega
  have l00 : ((A1 ++ A2).map Bn.d).length ≤ 1000000 := by rw [List.length_map, List.length_append]; omega
  have lc0 : (((A1 ++ A2).filter fun t => decide (t.ord = o)).map Bn.d).length + (C.map Bn.d).length ≤ 1000000 := by rw [List.length_map, List.length_map]; omega
  have eX : (((A1 ++ A2).filter fun t => decide (t.ord = o)) ++ C).map Bn.d = ((A1 ++ A2).filter fun t => decide (t.ord = o)).map Bn.d ++ C.map Bn.d := List.map_append
  have lF : (F.map Bn.d).length + 3 ≤ 1000000 := by rw [List.length_map]; omega
  have eA : (A1 ++ A2).map Bn.d = A1.map Bn.d ++ A2.map Bn.d := List.map_append
  rw [eA] at lc l00
  generalize hX : ((A1 ++ A2).filter fun t => decide (t.ord = o)) ++ C = X at *
  generalize ((A1 ++ A2).filter fun t => decide (t.ord = o)).map Bn.d = S1 at *
  generalize C.map Bn.d = CD at *
  generalize A1.map Bn.d = D1 at *
  generalize A2.map Bn.d = D2 at *
  unfold p_joinP_1
  have s1 : sSet 7 (op2 fAdd (vLc [8] (tgN 8) (itD iL (op2 fAdd (vVar 0) (vVar 1))) (op2 fEq (calF 1 g1 [vVar 8]) (vVar 6)) (vVar 8)) (vVar 3)) [some (.sh (.list D1)), some (.sh (.list D2)), some (.ow (F.map Bn.d)), some (.sh (.list CD)), some (.sh (.int (n : Nat))), hi, some (.sh (.int (o : Nat))), z7, none] = .nx [some (.sh (.list D1)), some (.sh (.list D2)), some (.ow (F.map Bn.d)), some (.sh (.list CD)), some (.sh (.int (n : Nat))), hi, some (.sh (.int (o : Nat))), some (.sh (.list (X.map Bn.d))), none] := by
    rw [eX]
    generalize op2 fEq (calF 1 g1 [vVar 8]) (vVar 6) = CC at *
    generalize F.map Bn.d = FD at *
    simp [l0, lc, lc0]
  have fin : ∀ (CC' : FS) (a3 a4 : Option SV) (Y : List D), Y.length ≤ 3 → sExt 2 (vVar 7) [some (.sh (.list D1)), some (.sh (.list D2)), some (.ow (F.map Bn.d)), a3, a4, hi, some (.sh (.int (o : Nat))), some (.sh (.list Y)), none] = .nx [some (.sh (.list D1)), some (.sh (.list D2)), some (.ow (F.map Bn.d ++ Y)), a3, a4, hi, some (.sh (.int (o : Nat))), some (.sh (.list Y)), none] := by
    intro _ a3 a4 Y hY
    have : (F.map Bn.d).length + Y.length ≤ 1000000 := by omega
    generalize F.map Bn.d = FD at *
    simp [this]
  clear hX eX lc lc0 lf l00 l0
  match X, hl, lx, s1 with
  | [], hl, lx, s1 =>
    refine ⟨some (.sh (.list [])), ?_⟩
    refine (seq_nx s1).trans ?_
    refine (seq_nx (e := [some (.sh (.list D1)), some (.sh (.list D2)), some (.ow (F.map Bn.d)), some (.sh (.list [])), some (.sh (.int (n : Nat))), hi, some (.sh (.int (o : Nat))), some (.sh (.list [])), none]) ?_).trans ?_
    · generalize F.map Bn.d = FD at *
      simp
    refine (seq_nx (e := [some (.sh (.list D1)), some (.sh (.list D2)), some (.ow (F.map Bn.d)), some (.sh (.list [])), some (.sh (.int (n : Nat))), hi, some (.sh (.int (o : Nat))), some (.sh (.list [])), none]) ?_).trans ?_
    · generalize F.map Bn.d = FD at *
      simp
    have := fin sNil (some (.sh (.list []))) (some (.sh (.int (n : Nat)))) [] (by simp)
    simp only [stepX, List.append_nil, List.map_nil, Nat.add_zero] at this ⊢
    exact this
  | [a], hl, lx, s1 =>
    refine ⟨some (.sh (.list [a.d])), ?_⟩
    refine (seq_nx s1).trans ?_
    refine (seq_nx (e := [some (.sh (.list D1)), some (.sh (.list D2)), some (.ow (F.map Bn.d)), some (.sh (.list [])), some (.sh (.int (n : Nat))), hi, some (.sh (.int (o : Nat))), some (.sh (.list [a.d])), none]) ?_).trans ?_
    · rw [show [a].map Bn.d = [a.d] from rfl]
      generalize F.map Bn.d = FD at *
      generalize a.d = AD at *
      simp
    refine (seq_nx (e := [some (.sh (.list D1)), some (.sh (.list D2)), some (.ow (F.map Bn.d)), some (.sh (.list [])), some (.sh (.int (n : Nat))), hi, some (.sh (.int (o : Nat))), some (.sh (.list [a.d])), none]) ?_).trans ?_
    · generalize F.map Bn.d = FD at *
      generalize a.d = AD at *
      simp
    have := fin sNil (some (.sh (.list []))) (some (.sh (.int (n : Nat)))) [a.d] (by simp)
    simp only [stepX, List.map_append, List.map_cons, List.map_nil, Nat.add_zero] at this ⊢
    exact this
  | a :: b :: r, hl, lx, s1 =>
    have q := hl a b List.mem_cons_self (List.mem_cons_of_mem _ List.mem_cons_self)
    have rl : (r.map Bn.d).length ≤ 1 := by rw [List.length_map]; simp only [List.length_cons] at lx; omega
    refine ⟨some (.sh (.list (r.map Bn.d))), ?_⟩
    refine (seq_nx s1).trans ?_
    have fm : (F ++ r).map Bn.d = F.map Bn.d ++ r.map Bn.d := List.map_append
    simp only [stepX, fm, List.map_cons, List.map_nil]
    generalize (lnk a b).d = LD at *
    generalize a.d = AD at *
    generalize b.d = BD at *
    generalize r.map Bn.d = RD' at *
    refine (seq_nx (e := [some (.sh (.list D1)), some (.sh (.list D2)), some (.ow (F.map Bn.d)), some (.sh (.list [])), some (.sh (.int (n : Nat))), hi, some (.sh (.int (o : Nat))), some (.sh (.list (AD :: BD :: RD'))), none]) ?_).trans ?_
    · generalize F.map Bn.d = FD at *
      simp
    refine (seq_nx (e := [some (.sh (.list D1)), some (.sh (.list D2)), some (.ow (F.map Bn.d)), some (.sh (.list [LD])), some (.sh (.int ((n + 1 : Nat) : Int))), hi, some (.sh (.int (o : Nat))), some (.sh (.list RD')), none]) ?_).trans ?_
    · generalize F.map Bn.d = FD at *
      have c : (1 : Int) < ((RD'.length : Int) + 1 + 1) := by omega
      simp [c, q]
    exact fin sNil _ _ RD' (by omega)
theorem one_ord {A : List Bn} (h : A.Pairwise fun a b => a.ord < b.ord) (o : Nat) : (A.filter fun t => decide (t.ord = o)).length ≤ 1 := by
  have p : (A.filter fun t => decide (t.ord = o)).Pairwise fun a b => a.ord < b.ord := h.sublist List.filter_sublist
  have q : ∀ t ∈ A.filter fun t => decide (t.ord = o), t.ord = o := fun t m => of_decide_eq_true (List.mem_filter.mp m).2
  generalize (A.filter fun t => decide (t.ord = o)) = L at *
  match L, p, q with
  | [], _, _ => simp
  | [_], _, _ => simp
  | a :: b :: r, p, q =>
    have h1 := q a List.mem_cons_self
    have h2 := q b (List.mem_cons_of_mem _ List.mem_cons_self)
    have := List.rel_of_pairwise_cons p (List.mem_cons_self)
    omega
theorem two_ord {A1 A2 : List Bn} (h1 : A1.Pairwise fun a b => a.ord < b.ord) (h2 : A2.Pairwise fun a b => a.ord < b.ord) (o : Nat) : ((A1 ++ A2).filter fun t => decide (t.ord = o)).length ≤ 2 := by
  rw [List.filter_append, List.length_append]
  have := one_ord h1 o
  have := one_ord h2 o
  omega
theorem jn_loop (k : Nat) (hk : 2 ≤ k) (A1 A2 : List Bn) (hA : A1.length + A2.length ≤ 100) (ho : ∀ t ∈ A1 ++ A2, t.ok ∧ t.ord ≤ 50) (i1 : A1.Pairwise fun a b => a.ord < b.ord) (i2 : A2.Pairwise fun a b => a.ord < b.ord) (hi : Option SV) : ∀ (m o : Nat) (F C : List Bn) (n : Nat) (z6 z7 : Option SV), Jn (A1 ++ A2) o F C n → (∀ t ∈ A1 ++ A2, t.ord < o + m) → o + m ≤ 60 →
    ∃ F' n' y6 y7, Jn (A1 ++ A2) (o + m + 1) F' [] n' ∧ forL (tgN 6) (p_joinP_1 (m_order_of k) (m_linked k)) ((List.range' o (m + 1)).map fun (i : Nat) => PyData.int (i : Int)) [some (.sh (.list (A1.map Bn.d))), some (.sh (.list (A2.map Bn.d))), some (.ow (F.map Bn.d)), some (.sh (.list (C.map Bn.d))), some (.sh (.int (n : Nat))), hi, z6, z7, none] = .nx [some (.sh (.list (A1.map Bn.d))), some (.sh (.list (A2.map Bn.d))), some (.ow (F'.map Bn.d)), some (.sh (.list [])), some (.sh (.int (n' : Nat))), hi, y6, y7, none] := by
  intro m
  have step : ∀ (o : Nat) (F C : List Bn) (n : Nat) (z7 : Option SV), Jn (A1 ++ A2) o F C n → o ≤ 60 → ∃ y7, p_joinP_1 (m_order_of k) (m_linked k) [some (.sh (.list (A1.map Bn.d))), some (.sh (.list (A2.map Bn.d))), some (.ow (F.map Bn.d)), some (.sh (.list (C.map Bn.d))), some (.sh (.int (n : Nat))), hi, some (.sh (.int (o : Nat))), z7, none] = .nx [some (.sh (.list (A1.map Bn.d))), some (.sh (.list (A2.map Bn.d))), some (.ow ((F ++ (stepX (((A1 ++ A2).filter fun t => decide (t.ord = o)) ++ C)).1).map Bn.d)), some (.sh (.list ((stepX (((A1 ++ A2).filter fun t => decide (t.ord = o)) ++ C)).2.1.map Bn.d))), some (.sh (.int ((n + (stepX (((A1 ++ A2).filter fun t => decide (t.ord = o)) ++ C)).2.2 : Nat) : Int))), hi, some (.sh (.int (o : Nat))), y7, none] := by
    intro o F C n z7 J h60
    have fl : F.length ≤ 1000 := by have := J.ct; rw [List.length_append] at this; omega
    have mo : ∀ x, x ∈ ((A1 ++ A2).filter fun t => decide (t.ord = o)) ++ C → x.ord ≤ 1000 := fun x m => by
      rcases List.mem_append.mp m with m | m
      · have := (ho x (List.mem_filter.mp m).1).2; omega
      · have := (J.co x m).2; omega
    exact jn_model (m_order_of k) (m_linked k) A1 A2 o n F C hi z7 (by omega) fl J.cl (two_ord i1 i2 o) (fun t _ => E_order_of t k (by omega)) (fun a b ma mb => e_linked a b k (by omega) (mo a ma) (mo b mb))
  induction m with
  | zero =>
    intro o F C n z6 z7 J hlt h60
    obtain ⟨y7, e⟩ := step o F C n z7 J (by omega)
    have J' := jn_step J (fun t m => (ho t m).1) (two_ord i1 i2 o)
    have nf : ((A1 ++ A2).filter fun t => decide (t.ord = o)) = [] := by
      rw [List.filter_eq_nil_iff]
      intro t m
      have := hlt t m
      simp; omega
    rw [nf, List.nil_append] at e J'
    have sx : (stepX C).2.1 = [] := by
      match C, J.cl with
      | [], _ => rfl
      | [_], _ => rfl
    rw [sx] at e J'
    refine ⟨_, _, some (.sh (.int (o : Nat))), y7, J', ?_⟩
    rw [show List.range' o (0 + 1) = [o] from rfl, List.map_cons, List.map_nil, forL_go (env' := [some (.sh (.list (A1.map Bn.d))), some (.sh (.list (A2.map Bn.d))), some (.ow (F.map Bn.d)), some (.sh (.list (C.map Bn.d))), some (.sh (.int (n : Nat))), hi, some (.sh (.int (o : Nat))), z7, none]) rfl e]
    rfl
  | succ m ih =>
    intro o F C n z6 z7 J hlt h60
    obtain ⟨y7, e⟩ := step o F C n z7 J (by omega)
    have J' := jn_step J (fun t m => (ho t m).1) (two_ord i1 i2 o)
    obtain ⟨F', n', w6, w7, J2, e2⟩ := ih (o + 1) _ _ _ (some (.sh (.int (o : Nat)))) y7 J' (fun t mt => by have := hlt t mt; omega) (by omega)
    refine ⟨F', n', w6, w7, by rw [show o + (m + 1) + 1 = o + 1 + m + 1 by omega]; exact J2, ?_⟩
    rw [show List.range' o (m + 1 + 1) = o :: List.range' (o + 1) (m + 1) from rfl, List.map_cons, forL_go (env' := [some (.sh (.list (A1.map Bn.d))), some (.sh (.list (A2.map Bn.d))), some (.ow (F.map Bn.d)), some (.sh (.list (C.map Bn.d))), some (.sh (.int (n : Nat))), hi, some (.sh (.int (o : Nat))), z7, none]) rfl e]
    exact e2
theorem lmax_spec {F : List Int} {x : Int} (h : x ∈ F) : ∃ m, lmax F = some m ∧ m ∈ F ∧ ∀ y ∈ F, y ≤ m := by
  cases F with
  | nil => exact absurd h List.not_mem_nil
  | cons a r =>
    obtain ⟨p, q, s⟩ := foldmax_spec r a
    refine ⟨_, rfl, ?_, fun y hy => ?_⟩
    · rcases p with p | p
      · rw [p]; exact List.mem_cons_self
      · exact List.mem_cons_of_mem _ p
    · rcases List.mem_cons.mp hy with rfl | hy
      · exact q
      · exact s y hy
theorem joinP_body (g1 g2 : List SV → R) (A1 A2 : List Bn) (hA : A1.length + A2.length ≤ 100) (m : Nat) (hm : m ≤ 60) (mx : Int) (n : Nat) (FD : List D) (y6 y7 : Option SV) (h1 : ∀ t ∈ A1 ++ A2, g1 [.sh t.d] = ri (t.ord : Nat)) (hx : lmax (((A1 ++ A2).map fun t => (t.ord : Int)) ++ [-1]) = some mx) (em : mx + 2 = ((m + 1 : Nat) : Int))
    (lp : forL (tgN 6) (p_joinP_1 g1 g2) ((List.range' 0 (m + 1)).map fun (i : Nat) => PyData.int (i : Int)) [some (.sh (.list (A1.map Bn.d))), some (.sh (.list (A2.map Bn.d))), some (.ow []), some (.sh (.list [])), some (.sh (.int (0 : Nat))), some (.sh (.int mx)), none, none, none] = .nx [some (.sh (.list (A1.map Bn.d))), some (.sh (.list (A2.map Bn.d))), some (.ow FD), some (.sh (.list [])), some (.sh (.int (n : Nat))), some (.sh (.int mx)), y6, y7, none]) :
    b_joinP g1 g2 [some (.sh (.list (A1.map Bn.d))), some (.sh (.list (A2.map Bn.d))), none, none, none, none, none, none, none] = .rt (.sh (.tuple [.list FD, .int (n : Nat)])) := by
  unfold b_joinP
  have lc := lcGo_map (t := tgN 8) (c := vC (.bool true)) (e := calF 1 g1 [vVar 8]) (env := [some (.sh (.list (A1.map Bn.d))), some (.sh (.list (A2.map Bn.d))), some (.ow []), some (.sh (.list [])), some (.sh (.int 0)), none, none, none, none]) Bn.d (fun t => .int (t.ord : Nat)) (A1 ++ A2) fun t ht => by
    have q := h1 t ht
    refine ⟨[some (.sh (.list (A1.map Bn.d))), some (.sh (.list (A2.map Bn.d))), some (.ow []), some (.sh (.list [])), some (.sh (.int 0)), none, none, none, some (.sh t.d)], rfl, rfl, ?_⟩
    generalize t.d = T at *
    simp [q]
  have e2 : (A1 ++ A2).map (fun t : Bn => PyData.int (t.ord : Nat)) = ((A1 ++ A2).map fun t : Bn => (t.ord : Int)).map .int := by rw [List.map_map]; rfl
  have l0 : (A1.map Bn.d).length + (A2.map Bn.d).length ≤ 1000000 := by rw [List.length_map, List.length_map]; omega
  have l1 : (((A1 ++ A2).map fun t => (t.ord : Int)).map PyData.int).length + 1 ≤ 1000000 := by rw [List.length_map, List.length_map, List.length_append]; omega
  have io := intsOf_map (((A1 ++ A2).map fun t => (t.ord : Int)) ++ [-1])
  have eI : (((A1 ++ A2).map fun t : Bn => (t.ord : Int)) ++ [-1]).map PyData.int = ((A1 ++ A2).map fun t : Bn => (t.ord : Int)).map PyData.int ++ [.int (-1)] := by rw [List.map_append]; rfl
  rw [eI] at io
  rw [e2, List.map_append] at lc
  have rg : ((List.range' 0 (m + 1)).map fun (i : Nat) => PyData.int (i : Int)) = rngD 0 1 (m + 1) := by rw [rngD_nat, List.range_eq_range']
  rw [rg] at lp
  generalize ((A1 ++ A2).map fun t => (t.ord : Int)).map PyData.int = OD at *
  generalize ((A1 ++ A2).map fun t => (t.ord : Int)) ++ [-1] = OI at *
  generalize p_joinP_1 g1 g2 = PP at *
  generalize A1.map Bn.d = D1 at *
  generalize A2.map Bn.d = D2 at *
  refine (seq_nx (e := [some (.sh (.list D1)), some (.sh (.list D2)), some (.ow []), some (.sh (.list [])), some (.sh (.int 0)), none, none, none, none]) ?_).trans ?_
  · simp
  refine (seq_nx (e := [some (.sh (.list D1)), some (.sh (.list D2)), some (.ow []), some (.sh (.list [])), some (.sh (.int 0)), some (.sh (.int mx)), none, none, none]) ?_).trans ?_
  · generalize calF 1 g1 [vVar 8] = CC at *
    simp [l0, lc, l1, io, hx]
  refine (seq_nx (e := [some (.sh (.list D1)), some (.sh (.list D2)), some (.ow FD), some (.sh (.list [])), some (.sh (.int (n : Nat))), some (.sh (.int mx)), y6, y7, none]) ?_).trans ?_
  · have i1 : itA iR1 [op2 fAdd (vVar 5) (vC (.int 2))] [some (.sh (.list D1)), some (.sh (.list D2)), some (.ow []), some (.sh (.list [])), some (.sh (.int 0)), some (.sh (.int mx)), none, none, none] = .val (rngD 0 1 (m + 1)) := by
      have c1 : ((m + 1 : Nat) : Int) ≤ 1000000 := by omega
      have c2 : (-1000000 : Int) ≤ ((m + 1 : Nat) : Int) := by omega
      have c3 : ((m + 1 : Nat) : Int).toNat = m + 1 := Int.toNat_natCast _
      generalize ((m + 1 : Nat) : Int) = MM at *
      simp [em, c1, c2, c3]
    simp only [sFor, i1]
    exact lp
  · simp
theorem E_joinP (A1 A2 : List Bn) (k : Nat) (hk : 3 ≤ k) (ho : ∀ t ∈ A1 ++ A2, t.ok ∧ t.ord ≤ 5) (i1 : A1.Pairwise fun a b => a.ord < b.ord) (i2 : A2.Pairwise fun a b => a.ord < b.ord) (tot : (pks (A1 ++ A2)).length ≤ 40) :
    ∃ ps n, PileOk ps ∧ (pks ps).Perm (pks (A1 ++ A2)) ∧ ps.length + n = A1.length + A2.length ∧ m_joinP k [.sh (.list (A1.map Bn.d)), .sh (.list (A2.map Bn.d))] = ok (.tuple [.list (ps.map Bn.d), .int ((n : Nat) : Int)]) := by
  obtain ⟨k, rfl⟩ : ∃ j, k = j + 1 := ⟨k - 1, by omega⟩
  have lA : A1.length + A2.length ≤ 100 := by
    have := pks_ge (A1 ++ A2)
    rw [List.length_append] at this; omega
  obtain ⟨mx, e1, e2, e3⟩ := lmax_spec (F := ((A1 ++ A2).map fun t => (t.ord : Int)) ++ [-1]) (x := -1) (by simp)
  have m0 : -1 ≤ mx := e3 (-1) (by simp)
  have m5 : mx ≤ 5 := by
    rcases List.mem_append.mp e2 with h | h
    · obtain ⟨t, mt, rfl⟩ := List.mem_map.mp h
      have := (ho t mt).2; omega
    · rw [List.mem_singleton.mp h]; omega
  obtain ⟨m, em⟩ : ∃ m : Nat, mx + 1 = (m : Int) := ⟨(mx + 1).toNat, by omega⟩
  have f0 : ((A1 ++ A2).filter fun t => decide (0 ≤ t.ord)) = A1 ++ A2 := List.filter_eq_self.mpr fun t _ => decide_eq_true (Nat.zero_le _)
  have J0 : Jn (A1 ++ A2) 0 [] [] 0 := ⟨fun t m => absurd m List.not_mem_nil, .nil, fun t m => absurd m List.not_mem_nil, by simp, by rw [f0]; exact .refl _, by rw [f0]; simp only [List.length_nil, Nat.zero_add, Nat.add_zero]⟩
  obtain ⟨F, n, y6, y7, J, lp⟩ := jn_loop k (by omega) A1 A2 lA (fun t m => ⟨(ho t m).1, by have := (ho t m).2; omega⟩) i1 i2 (some (.sh (.int mx))) m 0 [] [] 0 none none J0 (fun t mt => by
    have := e3 (t.ord : Int) (List.mem_append_left _ (List.mem_map.mpr ⟨t, mt, rfl⟩))
    omega) (by omega)
  have nf : ((A1 ++ A2).filter fun t => decide (0 + m + 1 ≤ t.ord)) = [] := by
    rw [List.filter_eq_nil_iff]
    intro t mt
    have := e3 (t.ord : Int) (List.mem_append_left _ (List.mem_map.mpr ⟨t, mt, rfl⟩))
    simp; omega
  have ky := J.ky
  have ct := J.ct
  rw [nf] at ky ct
  have ky' : (pks F).Perm (pks (A1 ++ A2)) := by simpa [pks] using ky
  simp only [List.length_nil, Nat.add_zero, List.length_append] at ct
  refine ⟨F, n, ⟨fun t mt => ⟨(J.fo t mt).1, ?_⟩, J.fi, by rw [ky'.length_eq]; exact tot⟩, ky', by omega, ?_⟩
  · have a := Bn.keys_len t (J.fo t mt).1
    have b : t.keys.length ≤ (pks F).length := (List.sublist_flatten_of_mem (List.mem_map.mpr ⟨t, mt, rfl⟩)).length_le
    rw [ky'.length_eq] at b
    have : ¬ 6 ≤ t.ord := fun c => by
      have := Nat.pow_le_pow_right (n := 2) (by decide) c
      omega
    omega
  · rw [m_joinP]
    exact run_rt 9 _ _ _ _ rfl (joinP_body _ _ A1 A2 lA m (by omega) mx n (F.map Bn.d) y6 y7 (fun t _ => E_order_of t k (by omega)) e1 (by omega) lp)
theorem lc_copied (g : List SV → R) (ps : List Bn) (h : ∀ t ∈ ps, g [.sh t.d] = ok t.d) {env : VEnv} {i : Nat} (ht : ∀ d : D, ∃ e, tgN i d env = some e ∧ e[i]? = some (some (.sh d))) : lcGo (tgN i) (vC (.bool true)) (calF 1 g [vVar i]) env (ps.map Bn.d) = some (ps.map Bn.d) := by
  refine lcGo_map Bn.d Bn.d ps fun t m => ?_
  obtain ⟨e, h1, h2⟩ := ht t.d
  have q := h t m
  refine ⟨e, h1, rfl, ?_⟩
  generalize t.d = T at *
  simp [h2, q]
theorem pj_body (g1 g2 g3 g4 : List SV → R) (ps qs : List Bn) (n1 n2 : Nat) (rd : D) (h40 : n1 + n2 ≤ 40) (lp : ps.length ≤ 1000) (lq : qs.length ≤ 1000) (a1 : g1 [.sh (.list (ps.map Bn.d))] = .val (.sh .none)) (a2 : g1 [.sh (.list (qs.map Bn.d))] = .val (.sh .none)) (b1 : g2 [.sh (.list (ps.map Bn.d))] = ri (n1 : Nat)) (b2 : g2 [.sh (.list (qs.map Bn.d))] = ri (n2 : Nat)) (c1 : ∀ t ∈ ps, g3 [.sh t.d] = ok t.d) (c2 : ∀ t ∈ qs, g3 [.sh t.d] = ok t.d) (d1 : g4 [.sh (.list (ps.map Bn.d)), .sh (.list (qs.map Bn.d))] = ok rd) :
    b_pile_join g1 g2 g3 g4 [some (.sh (.list (ps.map Bn.d))), some (.sh (.list (qs.map Bn.d))), none] = .rt (.sh rd) := by
  have e1 := lc_copied g3 ps c1 (env := [some (.sh (.list (ps.map Bn.d))), some (.sh (.list (qs.map Bn.d))), none]) (i := 2) fun d => ⟨[some (.sh (.list (ps.map Bn.d))), some (.sh (.list (qs.map Bn.d))), some (.sh d)], rfl, rfl⟩
  have e2 := lc_copied g3 qs c2 (env := [some (.sh (.list (ps.map Bn.d))), some (.sh (.list (qs.map Bn.d))), none]) (i := 2) fun d => ⟨[some (.sh (.list (ps.map Bn.d))), some (.sh (.list (qs.map Bn.d))), some (.sh d)], rfl, rfl⟩
  have l1 : (ps.map Bn.d).length ≤ 1000000 := by rw [List.length_map]; omega
  have l2 : (qs.map Bn.d).length ≤ 1000000 := by rw [List.length_map]; omega
  have c : ¬ (40 : Int) < (n1 : Int) + (n2 : Int) := by omega
  unfold b_pile_join
  generalize ps.map Bn.d = P at *
  generalize qs.map Bn.d = Q at *
  generalize calF 1 g3 [vVar 2] = CC at *
  simp [a1, a2, b1, b2, c, e1, e2, l1, l2, d1]
theorem pile_len {ps : List Bn} (h : PileOk ps) : ps.length ≤ 40 := Nat.le_trans (pks_ge ps) h.tot
theorem E_pile_join (ps qs : List Bn) (k : Nat) (hk : 60 ≤ k) (hp : PileOk ps) (hq : PileOk qs) (ht : (pks ps).length + (pks qs).length ≤ 40) : ∃ rs n, PileOk rs ∧ (pks rs).Perm (pks ps ++ pks qs) ∧ rs.length + n = ps.length + qs.length ∧ m_pile_join k [.sh (.list (ps.map Bn.d)), .sh (.list (qs.map Bn.d))] = ok (.tuple [.list (rs.map Bn.d), .int ((n : Nat) : Int)]) := by
  obtain ⟨k, rfl⟩ : ∃ j, k = j + 1 := ⟨k - 1, by omega⟩
  have l1 := pile_len hp
  have l2 := pile_len hq
  obtain ⟨rs, n, h1, h2, h3, h4⟩ := E_joinP ps qs k (by omega) (fun t m => (List.mem_append.mp m).elim (hp.ok t) (hq.ok t)) hp.inc hq.inc (by rw [pks_app, List.length_append]; omega)
  rw [pks_app] at h2
  refine ⟨rs, n, h1, h2, h3, ?_⟩
  rw [m_pile_join]
  have cp : ∀ ws : List Bn, PileOk ws → ∀ t ∈ ws, m_copied k [.sh t.d] = ok t.d := fun ws h t m => e_copied 5 t k (h.ok t m).1 (h.ok t m).2 (by have := (h.ok t m).2; omega) (by have := (h.ok t m).2; omega)
  exact run_rt 3 _ _ _ _ rfl (pj_body _ _ _ _ ps qs (pks ps).length (pks qs).length _ ht (by omega) (by omega) (E_check_pile ps k (by omega) hp) (E_check_pile qs k (by omega) hq) (e_count_of ps k (by omega) (by omega) hp.ok) (e_count_of qs k (by omega) (by omega) hq.ok) (cp ps hp) (cp qs hq) h4)
theorem po_loop (k : Nat) (hk : 3 ≤ k) (g1 : List SV → R) (a0 : Option SV) : ∀ (r : List Int) (ps : List Bn) (n : Nat) (z3 z4 : Option SV), PileOk ps → (pks ps).length + r.length ≤ 40 →
    ∃ qs m y3 y4, PileOk qs ∧ (pks qs).Perm (pks ps ++ r) ∧ qs.length + m = ps.length + r.length + n ∧ forL (tgN 3) (p_pile_of_1 g1 (m_joinP k)) (r.map .int) [a0, some (.sh (.list (ps.map Bn.d))), some (.sh (.int (n : Nat))), z3, z4] = .nx [a0, some (.sh (.list (qs.map Bn.d))), some (.sh (.int (m : Nat))), y3, y4]
  | [], ps, n, z3, z4, hp, _ => ⟨ps, n, z3, z4, hp, by simp, by simp, rfl⟩
  | x :: r, ps, n, z3, z4, hp, hl => by
    simp only [List.length_cons] at hl
    have kl : pks [Bn.leaf x] = [x] := rfl
    obtain ⟨qs, m, h1, h2, h3, h4⟩ := E_joinP ps [.leaf x] k hk (fun t mt => (List.mem_append.mp mt).elim (hp.ok t) fun z => by rw [List.mem_singleton.mp z]; exact ⟨trivial, by simp [Bn.ord]⟩) hp.inc (by simp) (by rw [pks_app, List.length_append, kl]; simp only [List.length_singleton]; omega)
    rw [pks_app, kl] at h2
    simp only [List.length_singleton] at h3
    have h4' : m_joinP k [.sh (.list (ps.map Bn.d)), .sh (.list [.tuple [.int x, .list []]])] = ok (.tuple [.list (qs.map Bn.d), .int ((m : Nat) : Int)]) := h4
    obtain ⟨rs, m2, y3, y4, j1, j2, j3, j4⟩ := po_loop k hk g1 a0 r qs (n + m) (some (.sh (.int x))) (some (.sh (.int m))) h1 (by rw [h2.length_eq, List.length_append, List.length_singleton]; omega)
    refine ⟨rs, m2, y3, y4, j1, j2.trans ?_, by simp only [List.length_cons]; omega, ?_⟩
    · refine (List.Perm.append_right r h2).trans ?_
      rw [List.append_assoc]; rfl
    · rw [List.map_cons, forL_go (env' := [a0, some (.sh (.list (ps.map Bn.d))), some (.sh (.int (n : Nat))), some (.sh (.int x)), z4]) rfl (e := [a0, some (.sh (.list (qs.map Bn.d))), some (.sh (.int ((n + m : Nat) : Int))), some (.sh (.int x)), some (.sh (.int (m : Nat)))]) (by
        generalize ps.map Bn.d = P at *
        generalize qs.map Bn.d = Q at *
        simp [p_pile_of_1, h4']), j4]
theorem E_pile_of (r : List Int) (k : Nat) (hk : 60 ≤ k) (hl : r.length ≤ 40) (hc : ∀ j, 50 ≤ j → m_check_keys j [.sh (.list (r.map .int))] = .val (.sh .none)) : ∃ ps n, PileOk ps ∧ (pks ps).Perm r ∧ ps.length + n = r.length ∧ m_pile_of k [.sh (.list (r.map .int))] = ok (.tuple [.list (ps.map Bn.d), .int ((n : Nat) : Int)]) := by
  obtain ⟨k, rfl⟩ : ∃ j, k = j + 1 := ⟨k - 1, by omega⟩
  obtain ⟨qs, m, y3, y4, j1, j2, j3, j4⟩ := po_loop k (by omega) (m_check_keys k) (some (.sh (.list (r.map .int)))) r [] 0 none none ⟨fun t m => absurd m List.not_mem_nil, .nil, by simp [pks]⟩ (by simpa [pks] using hl)
  refine ⟨qs, m, j1, by simpa [pks] using j2, by simpa using j3, ?_⟩
  have hc := hc k (by omega)
  rw [m_pile_of]
  unfold b_pile_of
  generalize p_pile_of_1 (m_check_keys k) (m_joinP k) = PP at *
  generalize r.map PyData.int = RI at *
  generalize qs.map Bn.d = Q at *
  simp only [List.map_nil] at j4
  have j5 : forL (tgN 3) PP RI [some (.sh (.list RI)), some (.sh (.list [])), some (.sh (.int 0)), none, none] = .nx [some (.sh (.list RI)), some (.sh (.list Q)), some (.sh (.int (m : Nat))), y3, y4] := j4
  simp [hc, j5]
theorem cl_desc : ∀ t : Bn, t.ok → t.cl.Pairwise fun a b => b.ord < a.ord
  | .leaf _, _ => .nil
  | .link o t, h => by
    obtain ⟨h1, _, h3, h4⟩ := h
    refine .cons (fun c m => ?_) (cl_desc t h4)
    have := (t.cl_ok h4 c m).2
    omega
theorem pt_body (g1 g2 g3 : List SV → R) (P : List D) (I : List Int) (a : Nat) (lo : Int) (key : Int) (cs : List D) (Fd : D) (n : Int) (hP : P ≠ []) (hl : P.length ≤ 1000) (hc : g1 [.sh (.list P)] = .val (.sh .none)) (e1 : lcGo (tgN 6) (vC (.bool true)) (calF 1 g2 [vVar 6]) [some (.sh (.list P)), none, none, none, none, none, none] P = some P)
    (e2 : lcGo (tgN 6) (vC (.bool true)) (op2 fIx (vVar 6) (vC (.int 0))) [some (.sh (.list P)), some (.sh (.list P)), none, none, none, none, none] P = some (I.map .int)) (lm : lmin I = some lo) (ix : idxOf I lo = some a) (ai : atI (I.map PyData.int) (a : Int) = some (.int lo)) (ap : atI P (a : Int) = some (.tuple [.int key, .list cs])) (l1 : (P.take a).length + (P.drop (a + 1)).length ≤ 1000) (hj : g3 [.sh (.list (P.take a ++ P.drop (a + 1))), .sh (.list cs.reverse)] = ok (.tuple [Fd, .int n])) :
    b_pile_take g1 g2 g3 [some (.sh (.list P)), none, none, none, none, none, none] = .rt (.sh (.tuple [.int lo, Fd])) := by
  unfold b_pile_take
  have pe : P.isEmpty = false := by cases P; exact absurd rfl hP; rfl
  have l6 : P.length ≤ 1000000 := by omega
  have io := intsOf_map I
  have c1 := cutD_hi P a
  have c2 := cutD_lo P (a + 1)
  have ea : ((a + 1 : Nat) : Int) = (a : Int) + 1 := by omega
  rw [ea] at c2
  have l7 : (P.take a).length + (P.drop (a + 1)).length ≤ 1000000 := by omega
  refine (seq_nx (e := [some (.sh (.list P)), none, none, none, none, none, none]) ?_).trans ?_
  · simp [hc]
  refine (seq_nx (e := [some (.sh (.list P)), none, none, none, none, none, none]) ?_).trans ?_
  · simp [pe]
  refine (seq_nx (e := [some (.sh (.list P)), some (.sh (.list P)), none, none, none, none, none]) ?_).trans ?_
  · generalize calF 1 g2 [vVar 6] = CC at *
    simp [l6, e1]
  refine (seq_nx (e := [some (.sh (.list P)), some (.sh (.list P)), some (.sh (.list (I.map .int))), none, none, none, none]) ?_).trans ?_
  · generalize op2 fIx (vVar 6) (vC (.int 0)) = CC at *
    simp [l6, e2]
  generalize I.map PyData.int = ID at *
  refine (seq_nx (e := [some (.sh (.list P)), some (.sh (.list P)), some (.sh (.list ID)), some (.sh (.int (a : Nat))), none, none, none]) ?_).trans ?_
  · simp [io, lm, ix]
  refine (seq_nx (e := [some (.sh (.list P)), some (.sh (.list P)), some (.sh (.list ID)), some (.sh (.int (a : Nat))), some (.sh Fd), some (.sh (.int n)), none]) ?_).trans ?_
  · generalize P.take a = P1 at *
    generalize P.drop (a + 1) = P2 at *
    simp [c1, c2, l7, ap, hj]
  · simp [ai]
theorem E_pile_take (ps : List Bn) (k : Nat) (hk : 60 ≤ k) (hp : PileOk ps) (hne : ps ≠ []) : ∃ qs x, PileOk qs ∧ (pks ps).Perm (x :: pks qs) ∧ (∀ y ∈ pks ps, x ≤ y) ∧ m_pile_take k [.sh (.list (ps.map Bn.d))] = ok (.tuple [.int x, .list (qs.map Bn.d)]) := by
  obtain ⟨k, rfl⟩ : ∃ j, k = j + 1 := ⟨k - 1, by omega⟩
  have ln := pile_len hp
  obtain ⟨x0, r0, hI⟩ : ∃ x r, ps.map Bn.key = x :: r := by
    cases ps with
    | nil => exact absurd rfl hne
    | cons t r => exact ⟨_, _, rfl⟩
  obtain ⟨c2, c3⟩ := cutAt_spec x0 r0
  have c1 := cutAt_lt x0 r0
  have lml : lmin (x0 :: r0) = some (least x0 r0) := rfl
  have lle := least_le x0 r0
  rw [← hI] at c1 c2 c3 lml lle
  generalize cutAt x0 r0 = a at *
  generalize least x0 r0 = lo at *
  rw [List.length_map] at c1
  obtain ⟨t, ht⟩ : ∃ t, ps[a]? = some t := ⟨ps[a], List.getElem?_eq_getElem c1⟩
  have tm : t ∈ ps := List.mem_of_getElem? ht
  have tk : t.key = lo := by
    rw [List.getElem?_map, ht] at c3
    exact Option.some.inj c3
  have tok := hp.ok t tm
  have sub : (ps.take a ++ ps.drop (a + 1)).Sublist ps := by
    conv => rhs; rw [← List.take_append_drop a ps]
    refine List.Sublist.append (List.Sublist.refl _) ?_
    rw [← List.drop_drop]
    exact List.drop_sublist 1 _
  have spl : ps = ps.take a ++ t :: ps.drop (a + 1) := by
    conv => lhs; rw [← List.take_append_drop a ps]
    congr 1
    rw [List.drop_eq_getElem_cons c1]
    congr 1
    rw [List.getElem?_eq_getElem c1] at ht
    exact Option.some.inj ht
  have pk : (pks ps).Perm (t.key :: (pks (ps.take a ++ ps.drop (a + 1)) ++ pks t.cl.reverse)) := by
    have e : pks ps = pks (ps.take a) ++ (t.keys ++ pks (ps.drop (a + 1))) := by
      conv => lhs; rw [spl]
      rw [pks_app, pks_cons]
    rw [e, pks_app]
    have rv : (pks t.cl.reverse).Perm t.ks := by
      have := pks_perm (List.reverse_perm t.cl)
      rwa [pks_cl] at this
    refine List.Perm.trans ?_ (List.Perm.cons _ (List.Perm.append_left _ rv.symm))
    show (pks (ps.take a) ++ (t.key :: t.ks ++ pks (ps.drop (a + 1)))).Perm _
    refine List.perm_middle.trans (List.Perm.cons _ ?_)
    rw [List.append_assoc]
    exact List.Perm.append_left _ List.perm_append_comm
  have hcl := t.cl_ok tok.1
  have i2 : (t.cl.reverse).Pairwise fun a b => a.ord < b.ord := List.pairwise_reverse.mpr (cl_desc t tok.1)
  have tl := pk.length_eq
  have tt := hp.tot
  simp only [List.length_cons, List.length_append] at tl
  obtain ⟨qs, n, h1, h2, h3, h4⟩ := E_joinP (ps.take a ++ ps.drop (a + 1)) t.cl.reverse k (by omega) (fun u m => by
    rcases List.mem_append.mp m with m | m
    · exact hp.ok u (sub.subset m)
    · have := hcl u (List.mem_reverse.mp m)
      exact ⟨this.1, by omega⟩) (hp.inc.sublist sub) i2 (by rw [pks_app, List.length_append]; omega)
  refine ⟨qs, lo, h1, ?_, fun y hy => ?_, ?_⟩
  · rw [pks_app] at h2
    rw [← tk]
    exact pk.trans (List.Perm.cons _ h2.symm)
  · obtain ⟨u, mu, hu⟩ := List.mem_flatMap.mp hy
    have k1 := lle u.key (List.mem_map.mpr ⟨u, mu, rfl⟩)
    rcases List.mem_cons.mp hu with rfl | hu
    · exact k1
    · exact Int.le_trans k1 (u.ks_ge (hp.ok u mu).1 y hu)
  · rw [m_pile_take]
    rw [List.map_append, List.map_take, List.map_drop, List.map_reverse, ← t.cs_cl] at h4
    have cp : ∀ t ∈ ps, m_copied k [.sh t.d] = ok t.d := fun t m => e_copied 5 t k (hp.ok t m).1 (hp.ok t m).2 (by have := (hp.ok t m).2; omega) (by have := (hp.ok t m).2; omega)
    refine run_rt 7 _ _ _ _ rfl (pt_body _ _ _ (ps.map Bn.d) (ps.map Bn.key) a lo t.key t.cs _ n (by cases ps; exact absurd rfl hne; exact fun z => nomatch z) (by rw [List.length_map]; omega) (E_check_pile ps k (by omega) hp) (lc_copied _ ps cp fun d => ⟨_, rfl, rfl⟩) ?e2 lml c2 ?ai ?ap ?l1 h4)
    case e2 =>
      rw [List.map_map]
      refine lcGo_map Bn.d (fun t => PyData.int t.key) ps fun u _ => ?_
      refine ⟨[some (.sh (.list (ps.map Bn.d))), some (.sh (.list (ps.map Bn.d))), none, none, none, none, some (.sh u.d)], rfl, rfl, ?_⟩
      simp [Bn.d]
    case ai =>
      rw [atI_int (by omega), Int.toNat_natCast, List.getElem?_map, c3]; rfl
    case ap =>
      rw [atI_int (by omega), Int.toNat_natCast, List.getElem?_map, ht]; rfl
    case l1 =>
      rw [List.length_take, List.length_drop, List.length_map]; omega
def ones (n : Nat) : Nat := if n = 0 then 0 else n % 2 + ones (n / 2)
termination_by n
decreasing_by omega
theorem ones_zero : ones 0 = 0 := by rw [ones]; simp
theorem ones_two (n : Nat) : ones (2 * n) = ones n := by
  by_cases h : n = 0
  · rw [h]
  · rw [ones, if_neg (by omega), show 2 * n % 2 = 0 by omega, show 2 * n / 2 = n by omega, Nat.zero_add]
theorem ones_odd (n : Nat) : ones (1 + 2 * n) = 1 + ones n := by
  rw [ones, if_neg (by omega), show (1 + 2 * n) % 2 = 1 by omega, show (1 + 2 * n) / 2 = n by omega]
theorem sum_shift : ∀ L : List Nat, (∀ l ∈ L, 1 ≤ l) → (L.map (2 ^ ·)).sum = 2 * ((L.map (· - 1)).map (2 ^ ·)).sum
  | [], _ => rfl
  | l :: L, h => by
    have h1 := h l List.mem_cons_self
    have ih := sum_shift L fun x m => h x (List.mem_cons_of_mem _ m)
    obtain ⟨j, rfl⟩ : ∃ j, l = j + 1 := ⟨l - 1, by omega⟩
    simp only [List.map_cons, List.sum_cons, ih, Nat.pow_succ, Nat.add_sub_cancel]
    omega
theorem ones_sum : ∀ (m : Nat) (L : List Nat), L.Pairwise (· < ·) → (∀ l ∈ L, l < m) → ones (L.map (2 ^ ·)).sum = L.length
  | 0, [], _, _ => ones_zero
  | 0, l :: L, _, h => absurd (h l List.mem_cons_self) (by omega)
  | m + 1, L, p, h => by
    have key : ∀ L : List Nat, L.Pairwise (· < ·) → (∀ l ∈ L, 1 ≤ l ∧ l < m + 1) → ones (L.map (2 ^ ·)).sum = L.length := fun L p h => by
      rw [sum_shift L fun l ml => (h l ml).1, ones_two, ones_sum m (L.map (· - 1)) ?_ ?_, List.length_map]
      · rw [List.pairwise_map]
        exact p.imp_of_mem fun {a b} ma mb hab => by have := (h a ma).1; omega
      · intro l ml
        obtain ⟨x, mx, rfl⟩ := List.mem_map.mp ml
        have := h x mx; omega
    match L, p, h with
    | [], _, _ => exact ones_zero
    | 0 :: L, p, h =>
      have p2 := List.pairwise_cons.mp p
      have k2 := key L p2.2 fun l ml => ⟨p2.1 l ml, h l (List.mem_cons_of_mem _ ml)⟩
      have s := sum_shift L fun l ml => p2.1 l ml
      rw [s, ones_two] at k2
      simp only [List.map_cons, List.sum_cons, Nat.pow_zero, s, ones_odd, k2, List.length_cons]
      omega
    | (l + 1) :: L, p, h =>
      have p2 := List.pairwise_cons.mp p
      exact key _ p fun x mx => ⟨by
        rcases List.mem_cons.mp mx with rfl | mx
        · omega
        · have := p2.1 x mx; omega, h x mx⟩
theorem pile_ones {ps : List Bn} (h : PileOk ps) : ones (pks ps).length = ps.length := by
  rw [pks_len2 ps fun t m => (h.ok t m).1]
  have := ones_sum 6 (ps.map Bn.ord) (List.pairwise_map.mpr h.inc) fun l ml => by
    obtain ⟨t, mt, rfl⟩ := List.mem_map.mp ml
    have := (h.ok t mt).2; omega
  rw [List.length_map, List.map_map] at this
  exact this
theorem e_heap_from (r : List Int) : ∀ k, r.length < k → k ≤ 1000 → m_heap_from k [.sh (.list (r.map .int))] = ok (hOf r).d := by
  fun_induction hOf r with
  | case1 =>
    intro k h _
    obtain ⟨k, rfl⟩ := k_succ h
    simp [m_heap_from, b_heap_from, Tr.d]
  | case2 x r h1 h2 =>
    intro k h hk
    obtain ⟨k, rfl⟩ := k_succ h
    have c1 := cutAt_lt x r
    obtain ⟨c2, c3⟩ := cutAt_spec x r
    have g1 := h1 k (by rw [List.length_take]; simp only [List.length_cons] at *; omega) (by omega)
    have g2 := h2 k (by rw [List.length_drop]; simp only [List.length_cons] at *; omega) (by omega)
    have e1 : lmin (x :: r) = some (least x r) := rfl
    have e2 : intsOf (PyData.int x :: r.map .int) = some (x :: r) := intsOf_map (x :: r)
    have e3 : atI (PyData.int x :: r.map .int) (cutAt x r : Int) = some (.int (least x r)) := by
      rw [atI_int (by omega), Int.toNat_natCast]
      have : (PyData.int x :: r.map .int)[cutAt x r]? = ((x :: r).map PyData.int)[cutAt x r]? := rfl
      rw [this, List.getElem?_map, c3]; rfl
    have e4 : cutD (PyData.int x :: r.map .int) none (some (cutAt x r : Int)) = ((x :: r).take (cutAt x r)).map .int := by
      rw [cutD_hi, List.map_take]; rfl
    have e5 : cutD (PyData.int x :: r.map .int) (some ((cutAt x r : Int) + 1)) none = ((x :: r).drop (cutAt x r + 1)).map .int := by
      have : ((cutAt x r : Int) + 1) = ((cutAt x r + 1 : Nat) : Int) := by omega
      rw [this, cutD_lo, List.map_drop]; rfl
    clear h1 h2
    generalize (x :: r).take (cutAt x r) = A at *
    generalize (x :: r).drop (cutAt x r + 1) = B at *
    simp [m_heap_from, b_heap_from, Tr.d, e1, e2, c2, e3, e4, e5, g1, g2]
theorem E_check_keys (r : List Int) (k : Nat) (h : r.length ≤ 40) (hk : 2 ≤ k) : m_check_keys k [.sh (.list (r.map .int))] = .val (.sh .none) := by
  obtain ⟨k, rfl⟩ : ∃ j, k = j + 2 := ⟨k - 2, by omega⟩
  exact e_check_keys r k h
theorem E_heap_of (r : List Int) (k : Nat) (h : r.length ≤ 40) (hn : r.Nodup) (hk : 50 ≤ k) (hk2 : k ≤ 1000) : m_heap_of k [.sh (.list (r.map .int))] = ok (hOf r).d := by
  obtain ⟨k, rfl⟩ : ∃ j, k = j + 1 := ⟨k - 1, by omega⟩
  have a1 := E_check_keys r k h (by omega)
  have a2 := e_heap_from r k (by omega) (by omega)
  have io := intsOf_map r
  have ll : (r.map PyData.int).length = r.length := List.length_map ..
  have c : r.Nodup ∧ r.length ≤ 4000 := ⟨hn, by omega⟩
  rw [m_heap_of]
  generalize r.map PyData.int = RD' at *
  have f1 : fLenSet (.list RD') = ri (r.length : Nat) := by
    simp only [fLenSet, io]
    rw [if_pos c]
  simp [b_heap_of, a1, a2, f1, ll, fNe, PyData.depth, PyData.eqv, -fLenSet]
def szL : Tr → List Nat
  | .lf => []
  | .nd l x r => szL l ++ [(Tr.nd l x r).size] ++ szL r
theorem szL_len : ∀ t : Tr, (szL t).length = t.size
  | .lf => rfl
  | .nd l x r => by simp only [szL, List.length_append, List.length_singleton, szL_len l, szL_len r, Tr.size]; omega
theorem szL_pos : ∀ t : Tr, ∀ s ∈ szL t, 0 < s ∧ s ≤ t.size
  | .lf, s, m => absurd m (by simp [szL])
  | .nd l x r, s, m => by
    simp only [szL, List.mem_append, List.mem_singleton] at m
    rcases m with (m | rfl) | m
    · have := szL_pos l s m; simp only [Tr.size]; omega
    · simp only [Tr.size]; omega
    · have := szL_pos r s m; simp only [Tr.size]; omega
theorem e_sizes_of : ∀ (t : Tr) (k : Nat), t.size + 1 < k → k ≤ 1000 → m_sizes_of k [.sh t.d] = .val (.ow ((szL t).map fun n => PyData.int (n : Nat)))
  | .lf, k, h, _ => by
    obtain ⟨k, rfl⟩ := k_succ h
    simp [m_sizes_of, b_sizes_of, Tr.d, szL]
  | .nd l x r, k, h, h2 => by
    obtain ⟨k, rfl⟩ := k_succ h
    have a1 := e_size_of (.nd l x r) k (by omega)
    simp only [Tr.size] at h
    have a3 := e_sizes_of l k (by omega) (by omega)
    have a4 := e_sizes_of r k (by omega) (by omega)
    have l1 : ((szL l).map fun n => PyData.int (n : Nat)).length + 1 ≤ 1000000 := by rw [List.length_map, szL_len]; omega
    have l2 : ((szL l).map fun n => PyData.int (n : Nat)).length + 1 + ((szL r).map fun n => PyData.int (n : Nat)).length ≤ 1000000 := by rw [List.length_map, List.length_map, szL_len, szL_len]; omega
    simp only [szL, List.map_append, List.map_cons, List.map_nil]
    simp only [Tr.d] at a1 ⊢
    generalize (Tr.nd l x r).size = SZ at *
    rw [m_sizes_of]
    generalize ((szL l).map fun n => PyData.int (n : Nat)) = L1 at *
    generalize ((szL r).map fun n => PyData.int (n : Nat)) = L2 at *
    simp [b_sizes_of, a1, a3, a4, l1, l2]
def facN : Nat → Nat
  | 0 => 1
  | n + 1 => facN n * (n + 1)
theorem fac_go (g1 g2 : List SV → R) (a0 a2 a4 : Option SV) : ∀ (m o : Nat) (z : Option SV), o + m ≤ 100 → ∃ z', forL (tgN 3) (p_how_many_rows_1 g1 g2) ((List.range' o m).map fun (i : Nat) => PyData.int (i : Int)) [a0, some (.sh (.int (facN o : Nat))), a2, z, a4] = .nx [a0, some (.sh (.int (facN (o + m) : Nat))), a2, z', a4]
  | 0, o, z, _ => ⟨z, rfl⟩
  | m + 1, o, z, h => by
    obtain ⟨z', ih⟩ := fac_go g1 g2 a0 a2 a4 m (o + 1) (some (.sh (.int (o : Nat)))) (by omega)
    refine ⟨z', ?_⟩
    have mo : mulOk ((facN o : Nat) : Int) ((o : Int) + 1) = true := mulOk_right (by omega) (by omega)
    have ef : ((facN o : Nat) : Int) * ((o : Int) + 1) = ((facN (o + 1) : Nat) : Int) := by simp only [facN]; push_cast; rfl
    rw [show List.range' o (m + 1) = o :: List.range' (o + 1) m from rfl, List.map_cons, forL_go (env' := [a0, some (.sh (.int (facN o : Nat))), a2, some (.sh (.int (o : Nat))), a4]) rfl (e := [a0, some (.sh (.int (facN (o + 1) : Nat))), a2, some (.sh (.int (o : Nat))), a4]) (by
      generalize ((facN (o + 1) : Nat) : Int) = F1 at *
      generalize ((facN o : Nat) : Int) = F0 at *
      simp [p_how_many_rows_1, mo, ef]), ih, show o + 1 + m = o + (m + 1) by omega]
def divL (a : Nat) (L : List Nat) : Nat := L.foldl (· / ·) a
theorem div_go (g1 g2 : List SV → R) (a0 a2 a3 : Option SV) : ∀ (L : List Nat) (a : Nat) (z : Option SV), (∀ s ∈ L, 0 < s ∧ s ≤ 100) → ∃ z', forL (tgN 4) (p_how_many_rows_2 g1 g2) (L.map fun n => PyData.int (n : Nat)) [a0, some (.sh (.int (a : Nat))), a2, a3, z] = .nx [a0, some (.sh (.int (divL a L : Nat))), a2, a3, z']
  | [], a, z, _ => ⟨z, rfl⟩
  | s :: L, a, z, h => by
    obtain ⟨h1, h2⟩ := h s List.mem_cons_self
    obtain ⟨z', ih⟩ := div_go g1 g2 a0 a2 a3 L (a / s) (some (.sh (.int (s : Nat)))) fun x m => h x (List.mem_cons_of_mem _ m)
    refine ⟨z', ?_⟩
    have fd : fDiv (.int (a : Nat)) (.int (s : Nat)) = ri ((a / s : Nat) : Int) := by
      simp only [fDiv]
      rw [if_pos ⟨by omega, by omega⟩]
      push_cast; rfl
    rw [List.map_cons, forL_go (env' := [a0, some (.sh (.int (a : Nat))), a2, a3, some (.sh (.int (s : Nat)))]) rfl (e := [a0, some (.sh (.int ((a / s : Nat) : Int))), a2, a3, some (.sh (.int (s : Nat)))]) (by simp [p_how_many_rows_2, fd, -fDiv]), ih]
    rfl
theorem E_how_many_rows (t : Tr) (k : Nat) (h : t.size ≤ 40) (hk : 60 ≤ k) (hk2 : k ≤ 900) : m_how_many_rows k [.sh t.d] = ri ((divL (facN t.size) (szL t) : Nat) : Int) := by
  obtain ⟨k, rfl⟩ : ∃ j, k = j + 3 := ⟨k - 3, by omega⟩
  have a1 := e_is_form t k h
  have a2 := e_sizes_of t (k + 2) (by omega) (by omega)
  obtain ⟨z3, f1⟩ := fac_go (m_is_form (k + 2)) (m_sizes_of (k + 2)) (some (.sh t.d)) (some (.sh (.list ((szL t).map fun n => PyData.int (n : Nat))))) none t.size 0 none (by omega)
  obtain ⟨z4, f2⟩ := div_go (m_is_form (k + 2)) (m_sizes_of (k + 2)) (some (.sh t.d)) (some (.sh (.list ((szL t).map fun n => PyData.int (n : Nat))))) z3 (szL t) (facN t.size) none fun s m => ⟨(szL_pos t s m).1, by have := (szL_pos t s m).2; omega⟩
  rw [← List.range_eq_range', ← rngD_nat, Nat.zero_add] at f1
  have f1' : forL (tgN 3) (p_how_many_rows_1 (m_is_form (k + 2)) (m_sizes_of (k + 2))) (rngD 0 1 t.size) [some (.sh t.d), some (.sh (.int 1)), some (.sh (.list ((szL t).map fun n => PyData.int (n : Nat)))), none, none] = .nx [some (.sh t.d), some (.sh (.int (facN t.size : Nat))), some (.sh (.list ((szL t).map fun n => PyData.int (n : Nat)))), z3, none] := f1
  have ll : ((szL t).map fun n => PyData.int (n : Nat)).length = t.size := by rw [List.length_map, szL_len]
  rw [m_how_many_rows]
  unfold b_how_many_rows
  generalize p_how_many_rows_1 (m_is_form (k + 2)) (m_sizes_of (k + 2)) = P1 at *
  generalize p_how_many_rows_2 (m_is_form (k + 2)) (m_sizes_of (k + 2)) = P2 at *
  generalize ((szL t).map fun n => PyData.int (n : Nat)) = LD at *
  generalize divL (facN t.size) (szL t) = RR at *
  generalize facN t.size = FF at *
  have s1 : (t.size : Int) ≤ 1000000 := by omega
  have s2 : (-1000000 : Int) ≤ (t.size : Int) := by omega
  generalize t.d = TD at *
  generalize t.size = SZ at *
  simp [a1, a2, ll, s1, s2, f1', f2]
theorem pp_body (g1 g2 g3 g4 g5 : List SV → R) (ps : List Bn) (x : Int) (n1 : Nat) (rd : D) (h40 : n1 + 1 ≤ 40) (lp : ps.length ≤ 1000) (a1 : g1 [.sh (.list (ps.map Bn.d))] = .val (.sh .none)) (a2 : g2 [.sh (.int x)] = .val (.sh .none)) (b1 : g3 [.sh (.list (ps.map Bn.d))] = ri (n1 : Nat)) (c1 : ∀ t ∈ ps, g4 [.sh t.d] = ok t.d) (d1 : g5 [.sh (.list (ps.map Bn.d)), .sh (.list [.tuple [.int x, .list []]])] = ok rd) :
    b_pile_put g1 g2 g3 g4 g5 [some (.sh (.list (ps.map Bn.d))), some (.sh (.int x)), none] = .rt (.sh rd) := by
  have e1 := lc_copied g4 ps c1 (env := [some (.sh (.list (ps.map Bn.d))), some (.sh (.int x)), none]) (i := 2) fun d => ⟨[some (.sh (.list (ps.map Bn.d))), some (.sh (.int x)), some (.sh d)], rfl, rfl⟩
  have l1 : (ps.map Bn.d).length ≤ 1000000 := by rw [List.length_map]; omega
  have c : ¬ (40 : Int) < (n1 : Int) + 1 := by omega
  unfold b_pile_put
  generalize ps.map Bn.d = P at *
  generalize calF 1 g4 [vVar 2] = CC at *
  simp [a1, a2, b1, c, e1, l1, d1]
theorem E_pile_put (ps : List Bn) (x : Int) (k : Nat) (hk : 60 ≤ k) (hp : PileOk ps) (ht : (pks ps).length + 1 ≤ 40) : ∃ rs n, PileOk rs ∧ (pks rs).Perm (x :: pks ps) ∧ rs.length + n = ps.length + 1 ∧ m_pile_put k [.sh (.list (ps.map Bn.d)), .sh (.int x)] = ok (.tuple [.list (rs.map Bn.d), .int ((n : Nat) : Int)]) := by
  obtain ⟨k, rfl⟩ : ∃ j, k = j + 2 := ⟨k - 2, by omega⟩
  have l1 := pile_len hp
  have kl : pks [Bn.leaf x] = [x] := rfl
  obtain ⟨qs, m, h1, h2, h3, h4⟩ := E_joinP ps [.leaf x] (k + 1) (by omega) (fun t mt => (List.mem_append.mp mt).elim (hp.ok t) fun z => by rw [List.mem_singleton.mp z]; exact ⟨trivial, by simp [Bn.ord]⟩) hp.inc (by simp) (by rw [pks_app, List.length_append, kl]; simp only [List.length_singleton]; omega)
  rw [pks_app, kl] at h2
  simp only [List.length_singleton] at h3
  have h4' : m_joinP (k + 1) [.sh (.list (ps.map Bn.d)), .sh (.list [.tuple [.int x, .list []]])] = ok (.tuple [.list (qs.map Bn.d), .int ((m : Nat) : Int)]) := h4
  have ck : m_check_key (k + 1) [.sh (.int x)] = .val (.sh .none) := by
    cases k with
    | zero => omega
    | succ j =>
      have := e_is_key j x
      rw [m_check_key]
      simp [b_check_key, this]
  refine ⟨qs, m, h1, h2.trans List.perm_append_comm, h3, ?_⟩
  rw [m_pile_put]
  exact run_rt 3 _ _ _ _ rfl (pp_body _ _ _ _ _ ps x (pks ps).length _ ht (by omega) (E_check_pile ps (k + 1) (by omega) hp) ck (e_count_of ps (k + 1) (by omega) (by omega) hp.ok) (fun t m => e_copied 5 t (k + 1) (hp.ok t m).1 (hp.ok t m).2 (by have := (hp.ok t m).2; omega) (by have := (hp.ok t m).2; omega)) h4')
theorem if_no {f : FE} {s : FS} {env : VEnv} (h : f env = rb false) : sIf f s sNil env = .nx env := by simp [h]
theorem hOf_cut {l r : List Int} {x : Int} (h1 : ∀ y ∈ l, x < y) (h2 : ∀ y ∈ r, x < y) : hOf (l ++ x :: r) = .nd (hOf l) x (hOf r) := by
  obtain ⟨a, b, e⟩ : ∃ a b, l ++ x :: r = a :: b := by
    cases l with
    | nil => exact ⟨_, _, rfl⟩
    | cons y l => exact ⟨_, _, rfl⟩
  have lm := least_mem a b
  have ll := least_le a b
  obtain ⟨c1, c2⟩ := cutAt_spec a b
  rw [← e] at lm ll c1 c2
  have lx : least a b = x := by
    have h3 := ll x (by simp)
    rcases List.mem_append.mp lm with z | z
    · have := h1 _ z; omega
    · rcases List.mem_cons.mp z with z | z
      · exact z
      · have := h2 _ z; omega
  rw [lx] at c1 c2
  have cl : cutAt a b = l.length := by
    obtain ⟨d1, d2⟩ := idxOf_spec c1
    rcases Nat.lt_trichotomy (cutAt a b) l.length with z | z | z
    · rw [List.getElem?_append_left z] at d1
      have := h1 x (List.mem_of_getElem? d1)
      omega
    · exact z
    · have := d2 l.length z x (by rw [List.getElem?_append_right (Nat.le_refl _)]; simp)
      exact absurd rfl this
  rw [e, hOf, cl, lx, ← e]
  congr 1
  · rw [List.take_left' rfl]
  · rw [show l.length + 1 = l.length + 1 from rfl, ← List.drop_drop, List.drop_left' rfl]; rfl
def chL (low : Int) : Nat → Tr
  | 0 => .lf
  | n + 1 => .nd (chL low n) (low - n) .lf
def chR (low : Int) : Nat → Tr
  | 0 => .lf
  | n + 1 => .nd .lf (low + 39 - n) (chR low n)
def risL (low : Int) (n : Nat) : List Int := (List.range n).map fun (i : Nat) => low + i
def falL (low : Int) (n : Nat) : List Int := (List.range n).map fun (i : Nat) => low - i
theorem chL_size (low : Int) : ∀ n, (chL low n).size = n
  | 0 => rfl
  | n + 1 => by simp only [chL, Tr.size, chL_size low n]; omega
theorem chR_size (low : Int) : ∀ n, (chR low n).size = n
  | 0 => rfl
  | n + 1 => by simp only [chR, Tr.size, chR_size low n]; omega
theorem chL_row (low : Int) : ∀ n, (chL low n).row = falL low n
  | 0 => rfl
  | n + 1 => by
    simp only [chL, Tr.row, chL_row low n, List.append_nil]
    unfold falL
    rw [List.range_succ, List.map_append]; rfl
theorem hOf_chL (low : Int) : ∀ n, hOf (falL low n) = chL low n
  | 0 => by unfold falL; simp [hOf, chL]
  | n + 1 => by
    have e : falL low (n + 1) = falL low n ++ (low - n) :: [] := by unfold falL; rw [List.range_succ, List.map_append]; rfl
    rw [e, hOf_cut, hOf_chL low n, chL]
    · simp [hOf]
    · intro y hy
      unfold falL at hy
      obtain ⟨i, hi, rfl⟩ := List.mem_map.mp hy
      have := List.mem_range.mp hi
      omega
    · intro y hy; cases hy
theorem chR_row (low : Int) : ∀ n, n ≤ 40 → (chR low n).row = (List.range n).map fun (i : Nat) => low + 40 - n + i
  | 0, _ => rfl
  | n + 1, h => by
    simp only [chR, Tr.row, chR_row low n (by omega), List.nil_append, List.singleton_append]
    rw [List.range_succ_eq_map, List.map_cons, List.map_map]
    congr 1
    · simp; omega
    · refine List.map_congr_left fun i _ => ?_
      simp only [Function.comp_apply, Nat.succ_eq_add_one, Int.natCast_add, Int.natCast_one]; omega
theorem chR_row40 (low : Int) : (chR low 40).row = risL low 40 := by
  rw [chR_row low 40 (by omega)]
  unfold risL
  refine List.map_congr_left fun i _ => ?_
  omega
theorem hOf_uni : ∀ t : Tr, t.row.Nodup → t.heap = true → hOf t.row = t
  | .lf, _, _ => by simp [Tr.row, hOf]
  | .nd l x r, hn, hh => by
    obtain ⟨q1, q2, q3, q4⟩ := nd_heap.mp hh
    have e : (Tr.nd l x r).row = l.row ++ x :: r.row := by simp [Tr.row]
    rw [e] at hn ⊢
    have hn' := List.nodup_append.mp hn
    have hr := List.nodup_cons.mp hn'.2.1
    rw [hOf_cut, hOf_uni l hn'.1 q3, hOf_uni r hr.2 q4]
    · intro y hy
      have a := heap_le q1 q3 y hy
      have b := hn'.2.2 y hy x List.mem_cons_self
      omega
    · intro y hy
      have a := heap_le q2 q4 y hy
      have b : x ≠ y := fun z => hr.1 (z ▸ hy)
      omega
theorem ris_nd (low : Int) (n : Nat) : (risL low n).Nodup := List.pairwise_map.mpr (List.Pairwise.imp (fun h => by omega) List.nodup_range)
theorem fal_nd (low : Int) (n : Nat) : (falL low n).Nodup := List.pairwise_map.mpr (List.Pairwise.imp (fun h => by omega) List.nodup_range)
theorem ris_len (low : Int) (n : Nat) : (risL low n).length = n := by simp [risL]
theorem fal_len (low : Int) (n : Nat) : (falL low n).length = n := by simp [falL]
theorem chR_heap (low : Int) : ∀ n, n ≤ 40 → (chR low n).heap = true
  | 0, _ => rfl
  | 1, _ => rfl
  | n + 2, h => by
    have ih := chR_heap low (n + 1) (by omega)
    rw [chR]
    refine nd_heap.mpr ⟨rfl, ?_, rfl, ih⟩
    rw [chR]
    simp only [geTop, Bool.not_eq_true', decide_eq_false_iff_not]
    omega
theorem chL_heap (low : Int) : ∀ n, (chL low n).heap = true
  | 0 => rfl
  | 1 => rfl
  | n + 2 => by
    have ih := chL_heap low (n + 1)
    rw [chL]
    refine nd_heap.mpr ⟨?_, rfl, ih, rfl⟩
    rw [chL]
    simp only [geTop, Bool.not_eq_true', decide_eq_false_iff_not]
    omega
theorem hOf_chR (low : Int) : hOf (risL low 40) = chR low 40 := by
  rw [← chR_row40]
  exact hOf_uni _ (by rw [chR_row40]; exact ris_nd low 40) (chR_heap low 40 (Nat.le_refl _))
theorem rows_loop (g1 g2 g3 g4 g5 g6 : List SV → R) (low : Int) (a1 a2 a6 a7 a8 a9 : Option SV) : ∀ (m i : Nat) (z : Option SV), ∃ y, forL (tgN 5) (p_l_rows_right_k23_1 g1 g2 g3 g4 g5 g6) ((List.range' i m).map fun (j : Nat) => .int (0 + (j : Int) * 1)) [some (.sh (.int low)), a1, a2, some (.sh (chL low i).d), some (.sh (chR low i).d), z, a6, a7, a8, a9] = .nx [some (.sh (.int low)), a1, a2, some (.sh (chL low (i + m)).d), some (.sh (chR low (i + m)).d), y, a6, a7, a8, a9]
  | 0, i, z => ⟨z, rfl⟩
  | m + 1, i, z => by
    obtain ⟨y, ih⟩ := rows_loop g1 g2 g3 g4 g5 g6 low a1 a2 a6 a7 a8 a9 m (i + 1) (some (.sh (.int (0 + (i : Int) * 1))))
    refine ⟨y, ?_⟩
    rw [show i + (m + 1) = (i + 1) + m by omega, ← ih, List.range'_succ, List.map_cons]
    refine forL_go (env' := [some (.sh (.int low)), a1, a2, some (.sh (chL low i).d), some (.sh (chR low i).d), some (.sh (.int (0 + (i : Int) * 1))), a6, a7, a8, a9]) rfl ?_
    have e1 : low - (i : Int) = low - (0 + (i : Int) * 1) := by omega
    have e2 : low + 39 - (i : Int) = low + 39 - (0 + (i : Int) * 1) := by omega
    simp only [chL, chR, Tr.d, e1, e2]
    generalize (chL low i).d = A
    generalize (chR low i).d = B
    generalize 0 + (i : Int) * 1 = J
    simp [p_l_rows_right_k23_1]
theorem e_leaf (k : Nat) (x : Int) (hk : 1 ≤ k) : m_l_leaf k [.sh (.int x)] = ok (one x).d := by
  obtain ⟨k, rfl⟩ : ∃ j, k = j + 1 := ⟨k - 1, by omega⟩
  simp [m_l_leaf, b_l_leaf, one, Tr.d]
theorem lc_ris (low : Int) (n : Nat) (env : VEnv) (l9 : env.length = 10) (h0 : env[0]? = some (some (.sh (.int low)))) : lcGo (tgN 5) (vC (.bool true)) (op2 fAdd (vVar 0) (vVar 5)) env (rngD 0 1 n) = some ((risL low n).map .int) := by
  unfold rngD risL
  rw [List.map_map]
  refine lcGo_map _ _ _ fun i _ => ⟨env.set 5 (some (.sh (.int (0 + (i : Int) * 1)))), rfl, rfl, ?_⟩
  have g0 : (env.set 5 (some (.sh (.int (0 + (i : Int) * 1)))))[0]? = some (some (.sh (.int low))) := by rw [List.getElem?_set_ne (by decide)]; exact h0
  have g5 : (env.set 5 (some (SV.sh (.int (0 + (i : Int) * 1)))))[5]? = some (some (.sh (.int (0 + (i : Int) * 1)))) := List.getElem?_set_self (by omega)
  have e : 0 + (i : Int) * 1 = i := by omega
  rw [e] at g0 g5 ⊢
  generalize env.set 5 (some (SV.sh (.int (i : Int)))) = E2 at *
  simp [op2, vVar, g0, g5]
theorem lc_fal (low : Int) (n : Nat) (env : VEnv) (l9 : env.length = 10) (h0 : env[0]? = some (some (.sh (.int low)))) : lcGo (tgN 5) (vC (.bool true)) (op2 fSub (vVar 0) (vVar 5)) env (rngD 0 1 n) = some ((falL low n).map .int) := by
  unfold rngD falL
  rw [List.map_map]
  refine lcGo_map _ _ _ fun i _ => ⟨env.set 5 (some (.sh (.int (0 + (i : Int) * 1)))), rfl, rfl, ?_⟩
  have g0 : (env.set 5 (some (.sh (.int (0 + (i : Int) * 1)))))[0]? = some (some (.sh (.int low))) := by rw [List.getElem?_set_ne (by decide)]; exact h0
  have g5 : (env.set 5 (some (SV.sh (.int (0 + (i : Int) * 1)))))[5]? = some (some (.sh (.int (0 + (i : Int) * 1)))) := List.getElem?_set_self (by omega)
  have e : 0 + (i : Int) * 1 = i := by omega
  rw [e] at g0 g5 ⊢
  generalize env.set 5 (some (SV.sh (.int (i : Int)))) = E2 at *
  simp [op2, vVar, g0, g5]
theorem chL_rank (low : Int) : ∀ n, (chL low (n + 1)).rank = 1
  | 0 => rfl
  | n + 1 => by
    have := chL_rank low n
    rw [chL, Tr.rank, this]
    rfl
theorem chL_szL (low : Int) : ∀ n, szL (chL low n) = (List.range n).map (· + 1)
  | 0 => rfl
  | n + 1 => by
    rw [chL, szL, chL_szL low n, List.range_succ, List.map_append]
    simp only [szL, Tr.size, chL_size, List.append_nil, List.map_cons, List.map_nil]
    congr 2
    omega
theorem chL_rows (low : Int) : divL (facN 40) (szL (chL low 40)) = 1 := by
  rw [chL_szL]
  decide +kernel
def shp (low : Int) : Tr := .nd (one (low + 9)) low (one (low + 5))
theorem srt3 (low : Int) : srt (shp low).row = [low, low + 5, low + 9] := by
  refine (srt_of (l := [low, low + 5, low + 9]) ?_ ?_).symm
  · simp only [shp, one, Tr.row, List.nil_append, List.append_nil, List.singleton_append, List.cons_append]
    refine List.Perm.trans ?_ (List.Perm.swap _ _ _)
    refine List.Perm.cons _ (List.Perm.swap _ _ _)
  · simp; omega
theorem rngL (n : Nat) : (rngD 0 1 n).length = n := by simp [rngD]
theorem E_l_rows_right_k23 (k : Nat) (hk : 70 ≤ k) (hk2 : k ≤ 800) (low : Int) : m_l_rows_right_k23 k [.sh (.int low)] = rb true := by
  obtain ⟨k, rfl⟩ : ∃ j, k = j + 1 := ⟨k - 1, by omega⟩
  have a1 := E_heap_of (falL low 40) k (by rw [fal_len]; omega) (fal_nd low 40) (by omega) (by omega)
  have a2 := E_heap_of (risL low 40) k (by rw [ris_len]; omega) (ris_nd low 40) (by omega) (by omega)
  have a3 := E_row_of (chL low 40) k (by rw [chL_size]; omega) (by omega) (by omega) (chL_heap low 40)
  have a4 := E_row_of (chR low 40) k (by rw [chR_size]; omega) (by omega) (by omega) (chR_heap low 40 (by omega))
  rw [hOf_chL] at a1
  rw [hOf_chR] at a2
  rw [chL_row] at a3
  rw [chR_row40] at a4
  have a5 := E_heap_of [] k (by simp) .nil (by omega) (by omega)
  have a6 := E_heap_of [low + 2, low, low + 1] k (by simp) (by simp; omega) (by omega) (by omega)
  have e6 : hOf [low + 2, low, low + 1] = .nd (one (low + 2)) low (one (low + 1)) := by
    have := hOf_cut (l := [low + 2]) (r := [low + 1]) (x := low) (by simp; omega) (by simp; omega)
    rw [List.singleton_append] at this
    rw [this]
    have o : ∀ x : Int, hOf [x] = one x := fun x => by
      have := hOf_cut (l := []) (r := []) (x := x) (by simp) (by simp)
      rw [List.nil_append] at this
      rw [this]; simp [hOf, one]
    rw [o, o]
  rw [e6] at a6
  have a7 := E_row_of (.nd .lf low (one low)) k (by simp [Tr.size, one]) (by omega) (by omega) (by simp [Tr.heap, one, geTop])
  have b0 := E_how_many_rows .lf k (by simp [Tr.size]) (by omega) (by omega)
  have b1 := E_how_many_rows (one low) k (by simp [Tr.size, one]) (by omega) (by omega)
  have b2 := E_how_many_rows (shp low) k (by simp [Tr.size, one, shp]) (by omega) (by omega)
  have b3 := E_how_many_rows (.nd (one low) (low + 9) (one (low - 5))) k (by simp [Tr.size, one]) (by omega) (by omega)
  have b4 := E_how_many_rows (chL low 40) k (by rw [chL_size]; omega) (by omega) (by omega)
  have b5 := E_how_many_rows (.nd (shp low) low (shp low)) k (by simp [Tr.size, one, shp]) (by omega) (by omega)
  have b6 := E_how_many_rows (.nd (shp low) low .lf) k (by simp [Tr.size, one, shp]) (by omega) (by omega)
  rw [chL_size, chL_rows] at b4
  have r0 := E_rank .lf k (by simp [Tr.size]) (by omega) rfl
  have r1 := E_rank (chL low 40) k (by rw [chL_size]; omega) (by omega) (chL_heap low 40)
  have hs : (shp low).heap = true := by simp [shp, one, Tr.heap, geTop]; omega
  have r2 := E_rank (shp low) k (by simp [Tr.size, one, shp]) (by omega) hs
  have r3 := E_rank (.nd (shp low) low (shp low)) k (by simp [Tr.size, one, shp]) (by omega) (nd_heap.mpr ⟨by simp [shp, geTop], by simp [shp, geTop], hs, hs⟩)
  rw [chL_rank] at r1
  have ky := E_keys_of (shp low) k (by simp [Tr.size, one, shp]) (by omega) (by omega) hs
  rw [srt3] at ky
  have a5 : m_heap_of k [.sh (.list [])] = ok (.tuple []) := a5.trans (by simp [hOf, Tr.d])
  have a6 : m_heap_of k [.sh (.list [.int (low + 2), .int low, .int (low + 1)])] = ok (Tr.nd (one (low + 2)) low (one (low + 1))).d := a6
  have a7 : m_row_of k [.sh (.tuple [.tuple [], .int low, (one low).d])] = .val (.ow ((Tr.nd .lf low (one low)).row.map .int)) := a7
  have b0 : m_how_many_rows k [.sh (.tuple [])] = ri 1 := b0
  have b1 : m_how_many_rows k [.sh (one low).d] = ri 1 := b1.trans (by simp [divL, facN, szL, one, shp, Tr.size])
  have b2 : m_how_many_rows k [.sh (shp low).d] = ri 2 := b2.trans (by simp [divL, facN, szL, one, shp, Tr.size])
  have b3 : m_how_many_rows k [.sh (.tuple [(one low).d, .int (low + 9), (one (low - 5)).d])] = ri 2 := b3.trans (by simp [divL, facN, szL, one, shp, Tr.size])
  have b4 : m_how_many_rows k [.sh (chL low 40).d] = ri 1 := b4
  have b5 : m_how_many_rows k [.sh (.tuple [(shp low).d, .int low, (shp low).d])] = ri 80 := b5.trans (by simp [divL, facN, szL, one, shp, Tr.size])
  have b6 : m_how_many_rows k [.sh (.tuple [(shp low).d, .int low, .tuple []])] = ri 2 := b6.trans (by simp [divL, facN, szL, one, shp, Tr.size])
  have r0 : m_rank k [.sh (.tuple [])] = ri 0 := r0
  have r1 : m_rank k [.sh (chL low 40).d] = ri 1 := r1
  have r2 : m_rank k [.sh (shp low).d] = ri 2 := r2
  have r3 : m_rank k [.sh (.tuple [(shp low).d, .int low, (shp low).d])] = ri 3 := r3
  have lf : ∀ x : Int, m_l_leaf k [.sh (.int x)] = ok (one x).d := fun x => e_leaf k x (by omega)
  obtain ⟨y, lp⟩ := rows_loop (m_heap_of k) (m_row_of k) (m_l_leaf k) (m_how_many_rows k) (m_rank k) (m_keys_of k) low (some (.sh (.list ((risL low 40).map .int)))) (some (.sh (.list ((falL low 40).map .int)))) none none none none 40 0 none
  have q1 := lc_ris low 40 [some (.sh (.int low)), none, none, none, none, none, none, none, none, none] rfl rfl
  have q2 := lc_fal low 40 [some (.sh (.int low)), none, none, none, none, none, none, none, none, none] rfl rfl
  have f1 : fNe (chL low 40).d (chL low 40).d = rb false := by rw [fNe_d (by rw [chL_size]; omega)]; simp
  have f2 : fNe (chR low 40).d (chR low 40).d = rb false := by rw [fNe_d (by rw [chR_size]; omega)]; simp
  have f3 : fNe (.list ((falL low 40).map .int)) (.list ((falL low 40).map .int)) = rb false := by simp
  have f4 : fNe (.list ((risL low 40).map .int)) (.list ((risL low 40).map .int)) = rb false := by simp
  rw [m_l_rows_right_k23]
  refine run_rt 10 _ _ _ [some (.sh (.int low)), none, none, none, none, none, none, none, none, none] rfl ?_
  unfold b_l_rows_right_k23
  generalize p_l_rows_right_k23_1 (m_heap_of k) (m_row_of k) (m_l_leaf k) (m_how_many_rows k) (m_rank k) (m_keys_of k) = PP at *
  generalize m_heap_of k = gH at *
  generalize m_row_of k = gR at *
  generalize m_l_leaf k = gL at *
  generalize m_how_many_rows k = gM at *
  generalize m_rank k = gK at *
  generalize m_keys_of k = gY at *
  generalize (risL low 40).map PyData.int = RI at *
  generalize (falL low 40).map PyData.int = FA at *
  have e40 : ((List.range' 0 40).map fun (j : Nat) => PyData.int (0 + (j : Int) * 1)) = rngD 0 1 40 := by unfold rngD; rw [List.range_eq_range']
  rw [e40] at lp
  have l40 := rngL 40
  have lp : forL (tgN 5) PP (rngD 0 1 40) [some (.sh (.int low)), some (.sh (.list RI)), some (.sh (.list FA)), some (.sh (.tuple [])), some (.sh (.tuple [])), none, none, none, none, none] = .nx [some (.sh (.int low)), some (.sh (.list RI)), some (.sh (.list FA)), some (.sh (chL low 40).d), some (.sh (chR low 40).d), y, none, none, none, none] := lp
  generalize (chL low 40).d = LD at *
  generalize (chR low 40).d = RR at *
  generalize hRG : rngD 0 1 40 = RG at *
  have g6 : fNe (Tr.nd (one (low + 2)) low (one (low + 1))).d (.tuple [(one (low + 2)).d, .int low, (one (low + 1)).d]) = rb false := by
    rw [show PyData.tuple [(one (low + 2)).d, .int low, (one (low + 1)).d] = (Tr.nd (one (low + 2)) low (one (low + 1))).d from rfl, fNe_d (by simp [one, Tr.size])]; simp
  have g7 : fNe (.list ((Tr.nd .lf low (one low)).row.map .int)) (.list [.int low, .int low]) = rb false := by
    rw [show PyData.list [.int low, .int low] = .list (([low, low] : List Int).map .int) from rfl, fNe_ints]; simp [Tr.row, one]
  generalize hSD : (shp low).d = SD at *
  refine (seq_nx (e := [some (.sh (.int low)), some (.sh (.list RI)), some (.sh (.list FA)), none, none, none, none, none, none, none]) ?_).trans ?_
  · simp [q1, q2, l40, hRG]
  refine (seq_nx (e := [some (.sh (.int low)), some (.sh (.list RI)), some (.sh (.list FA)), some (.sh (.tuple [])), some (.sh (.tuple [])), none, none, none, none, none]) ?_).trans ?_
  · simp
  refine (seq_nx (e := [some (.sh (.int low)), some (.sh (.list RI)), some (.sh (.list FA)), some (.sh LD), some (.sh RR), y, none, none, none, none]) ?_).trans ?_
  · refine (show _ = forL (tgN 5) PP RG [some (.sh (.int low)), some (.sh (.list RI)), some (.sh (.list FA)), some (.sh (.tuple [])), some (.sh (.tuple [])), none, none, none, none, none] from ?_).trans lp
    simp [hRG]
  refine (seq_nx (if_no ?_)).trans ?_
  · simp [a1, f1]
  refine (seq_nx (if_no ?_)).trans ?_
  · simp [a2, f2]
  refine (seq_nx (if_no ?_)).trans ?_
  · simp [a3, f3]
  refine (seq_nx (if_no ?_)).trans ?_
  · simp [a4, f4]
  refine (seq_nx (if_no ?_)).trans ?_
  · simp [a5]
  refine (seq_nx (if_no ?_)).trans ?_
  · simp [a6, lf, g6]
  refine (seq_nx (if_no ?_)).trans ?_
  · simp [a7, lf, g7]
  refine (seq_nx (e := [some (.sh (.int low)), some (.sh (.list RI)), some (.sh (.list FA)), some (.sh LD), some (.sh RR), y, some (.sh SD), none, none, none]) ?_).trans ?_
  · simp [lf]; exact hSD
  have o1 := lf low
  have o2 := lf (low - 5)
  generalize (one low).d = O1 at *
  generalize (one (low - 5)).d = O2 at *
  refine (seq_nx (e := [some (.sh (.int low)), some (.sh (.list RI)), some (.sh (.list FA)), some (.sh LD), some (.sh RR), y, some (.sh SD), some (.sh (.list [.tuple [.tuple [], .int 1], .tuple [O1, .int 1], .tuple [SD, .int 2]])), none, none]) ?_).trans ?_
  · simp [o1]
  refine (seq_nx (e := [some (.sh (.int low)), some (.sh (.list RI)), some (.sh (.list FA)), some (.sh LD), some (.sh RR), y, some (.sh SD), some (.sh (.list [.tuple [.tuple [], .int 1], .tuple [O1, .int 1], .tuple [SD, .int 2], .tuple [.tuple [O1, .int (low + 9), O2], .int 2], .tuple [LD, .int 1]])), none, none]) ?_).trans ?_
  · simp [o1, o2]
  refine (seq_nx (e := [some (.sh (.int low)), some (.sh (.list RI)), some (.sh (.list FA)), some (.sh LD), some (.sh RR), y, some (.sh SD), some (.sh (.list [.tuple [.tuple [], .int 1], .tuple [O1, .int 1], .tuple [SD, .int 2], .tuple [.tuple [O1, .int (low + 9), O2], .int 2], .tuple [LD, .int 1], .tuple [.tuple [SD, .int low, SD], .int 80], .tuple [.tuple [SD, .int low, .tuple []], .int 2]])), none, none]) ?_).trans ?_
  · simp
  refine (seq_nx (if_no ?_)).trans ?_
  · simp [lcGo, b0, b1, b2, b3, b4, b5, b6, blsOf]
  refine (seq_nx (if_no ?_)).trans ?_
  · simp [r0]
  refine (seq_nx (if_no ?_)).trans ?_
  · simp [r1]
  refine (seq_nx (if_no ?_)).trans ?_
  · simp [r2]
  refine (seq_nx (if_no ?_)).trans ?_
  · simp [r3]
  have fy : fEq (.list (([low, low + 5, low + 9] : List Int).map .int)) (.list (([low, low + 5, low + 9] : List Int).map .int)) = rb true := by rw [fEq_ints]; simp
  simp only [List.map_cons, List.map_nil] at fy ky
  simp [ky, fy]
theorem fNe_tk {a : Tr} {i j : Int} (h : a.size ≤ 80) : fNe (.tuple [.int i, a.d, .int j]) (.tuple [.int i, a.d, .int j]) = rb false := by
  have := depth_d a
  unfold fNe
  rw [if_pos (by simp only [PyData.depth, PyData.depthAll]; omega)]
  simp only [PyData.eqv, PyData.eqvAll, eqv_d, Bool.and_true]
  simp
theorem fNe_pr {a : Tr} {i : Int} (h : a.size ≤ 90) : fNe (.tuple [a.d, .int i]) (.tuple [a.d, .int i]) = rb false := by rw [fNe_dn h]; simp
def tw2 (low : Int) : Tr := .nd (one (low + 1)) low (one (low + 2))
def ch3 (low : Int) : Tr := .nd .lf low (.nd .lf (low + 1) (one (low + 2)))
theorem E_l_turns_right (k : Nat) (hk : 80 ≤ k) (low : Int) : m_l_turns_right k [.sh (.int low)] = rb true := by
  obtain ⟨k, rfl⟩ : ∃ j, k = j + 1 := ⟨k - 1, by omega⟩
  have lf : ∀ x : Int, m_l_leaf k [.sh (.int x)] = ok (one x).d := fun x => e_leaf k x (by omega)
  have h1 : ∀ x : Int, (one x).heap = true := fun x => by simp [one, Tr.heap, geTop]
  have h2 : (tw2 low).heap = true := by simp [tw2, one, Tr.heap, geTop]; omega
  have s1 : ∀ x : Int, (one x).size = 1 := fun x => rfl
  have s2 : (tw2 low).size = 3 := rfl
  have n1 : ¬ low + 1 < low := by omega
  have n2 : ¬ low + 2 < low := by omega
  have n3 : ¬ low < low := by omega
  have n4 : low < low + 5 := by omega
  have n5 : ¬ low + 2 < low + 1 := by omega
  have n6 : low < low + 2 := by omega
  have t1 := E_turn_join .lf (tw2 low) k ⟨by rw [s2]; simp [Tr.size], rfl, h2⟩ (by omega)
  have t2 := E_turn_join (tw2 low) .lf k ⟨by rw [s2]; simp [Tr.size], h2, rfl⟩ (by omega)
  have t3 := E_turn_join .lf .lf k ⟨by simp [Tr.size], rfl, rfl⟩ (by omega)
  have t4 := E_turn_take (one low) k (by rw [s1]; omega) (by omega) (h1 low)
  have t5 := E_turn_join (one low) (one low) k ⟨by simp [s1], h1 _, h1 _⟩ (by omega)
  have t6 := E_turn_join (one (low + 5)) (one low) k ⟨by simp [s1], h1 _, h1 _⟩ (by omega)
  have t7 := E_turn_join (tw2 low) (one low) k ⟨by simp [s1, s2], h2, h1 _⟩ (by omega)
  have t8 := E_turn_take (tw2 low) k (by rw [s2]; omega) (by omega) h2
  have j1 : joinT .lf (tw2 low) = (tw2 low, 0) := by simp [joinT, tw2]
  have j2 : joinT (tw2 low) .lf = (tw2 low, 0) := by simp [joinT, tw2]
  have j3 : joinT .lf .lf = (.lf, 0) := by simp [joinT]
  have j5 : joinT (one low) (one low) = (.nd (one low) low .lf, 1) := by simp [joinT, one]
  have j6 : joinT (one (low + 5)) (one low) = (.nd (one (low + 5)) low .lf, 1) := by simp [joinT, one, n4]
  have j7 : joinT (tw2 low) (one low) = (.nd (.nd (one (low + 2)) low .lf) low (one (low + 1)), 2) := by simp [joinT, tw2, one, n6]
  have j8 : joinT (one (low + 1)) (one (low + 2)) = (.nd (one (low + 2)) (low + 1) .lf, 1) := by simp [joinT, one, n5]
  rw [j1] at t1
  rw [j2] at t2
  rw [j3] at t3
  rw [j5] at t5
  rw [j6] at t6
  rw [j7] at t7
  have t4 : m_turn_take k [.sh (one low).d] = ok (.tuple [.int low, .tuple [], .int 0]) := t4.trans (by simp [takeT, one, j3, Tr.d])
  have t8 : m_turn_take k [.sh (tw2 low).d] = ok (.tuple [.int low, (Tr.nd (one (low + 2)) (low + 1) .lf).d, .int 1]) := t8.trans (by simp [takeT, tw2, j8])
  have hc : (ch3 low).heap = true := by simp [ch3, one, Tr.heap, geTop]; omega
  have p1 := E_purse (tw2 low) k (by rw [s2]; omega) (by omega) h2
  have p2 := E_purse (.nd .lf low (one low)) k (by simp [Tr.size, one]) (by omega) (by simp [one, Tr.heap, geTop])
  have p3 := E_purse (ch3 low) k (by simp [Tr.size, one, ch3]) (by omega) hc
  have p4 := E_purse .lf k (by simp [Tr.size]) (by omega) rfl
  have p5 := E_purse (.nd (one low) low .lf) k (by simp [Tr.size, one]) (by omega) (by simp [one, Tr.heap, geTop])
  have p1 : m_purse k [.sh (tw2 low).d] = ri 0 := p1.trans (by simp [Tr.hv, tw2, one, Tr.size])
  have p2 : m_purse k [.sh (.tuple [.tuple [], .int low, (one low).d])] = ri 1 := p2.trans (by simp [Tr.hv, one, Tr.size])
  have p3 : m_purse k [.sh (ch3 low).d] = ri 2 := p3.trans (by simp [Tr.hv, one, ch3, Tr.size])
  have p4 : m_purse k [.sh (.tuple [])] = ri 0 := p4.trans (by simp [Tr.hv])
  have p5 : m_purse k [.sh (.tuple [(one low).d, .int low, .tuple []])] = ri 0 := p5.trans (by simp [Tr.hv, one, Tr.size])
  have f1 := fNe_pr (a := tw2 low) (i := 0) (by rw [s2]; omega)
  have f3 := fNe_pr (a := .lf) (i := 0) (by simp [Tr.size])
  have f4 := fNe_tk (a := .lf) (i := low) (j := 0) (by simp [Tr.size])
  have f5 := fNe_pr (a := .nd (one low) low .lf) (i := 1) (by simp [Tr.size, one])
  have f6 := fNe_pr (a := .nd (one (low + 5)) low .lf) (i := 1) (by simp [Tr.size, one])
  have f7 := fNe_pr (a := .nd (.nd (one (low + 2)) low .lf) low (one (low + 1))) (i := 2) (by simp [Tr.size, one])
  have f8 := fNe_tk (a := .nd (one (low + 2)) (low + 1) .lf) (i := low) (j := 1) (by simp [Tr.size, one])
  have d2 : (tw2 low).d = .tuple [(one (low + 1)).d, .int low, (one (low + 2)).d] := rfl
  have d3 : (ch3 low).d = .tuple [.tuple [], .int low, .tuple [.tuple [], .int (low + 1), (one (low + 2)).d]] := rfl
  have x1 : m_turn_join k [.sh (.tuple []), .sh (tw2 low).d] = ok (.tuple [(tw2 low).d, .int 0]) := t1
  have x2 : m_turn_join k [.sh (tw2 low).d, .sh (.tuple [])] = ok (.tuple [(tw2 low).d, .int 0]) := t2
  have x3 : m_turn_join k [.sh (.tuple []), .sh (.tuple [])] = ok (.tuple [.tuple [], .int 0]) := t3
  have x5 : m_turn_join k [.sh (one low).d, .sh (one low).d] = ok (.tuple [.tuple [(one low).d, .int low, .tuple []], .int 1]) := t5
  have x6 : m_turn_join k [.sh (one (low + 5)).d, .sh (one low).d] = ok (.tuple [.tuple [(one (low + 5)).d, .int low, .tuple []], .int 1]) := t6
  have x7 : m_turn_join k [.sh (tw2 low).d, .sh (one low).d] = ok (.tuple [.tuple [.tuple [(one (low + 2)).d, .int low, .tuple []], .int low, (one (low + 1)).d], .int 2]) := t7
  simp only [Tr.d] at f3 f4 f5 f6 f7 f8 t8
  rw [m_l_turns_right]
  refine run_rt 4 _ _ _ [some (.sh (.int low)), none, none, none] rfl ?_
  unfold b_l_turns_right
  have o0 := lf low
  have o1 := lf (low + 1)
  have o2 := lf (low + 2)
  have o5 := lf (low + 5)
  clear lf
  generalize m_l_leaf k = gL at *
  generalize m_turn_join k = gJ at *
  generalize m_turn_take k = gT at *
  generalize m_purse k = gP at *
  generalize (tw2 low).d = TD at *
  generalize (ch3 low).d = CD at *
  generalize (one low).d = O0 at *
  generalize (one (low + 1)).d = O1 at *
  generalize (one (low + 2)).d = O2 at *
  generalize (one (low + 5)).d = O5 at *
  clear t1 t2 t3 t5 t6 t7 j1 j2 j3 j5 j6 j7 j8 h1 h2 s1 s2
  refine (seq_nx (e := [some (.sh (.int low)), some (.sh O0), some (.sh TD), none]) ?_).trans ?_
  · simp [o0, o1, o2, d2]
  refine (seq_nx (if_no ?_)).trans ?_
  · simp [x1, f1]
  refine (seq_nx (if_no ?_)).trans ?_
  · simp [x2, f1]
  refine (seq_nx (if_no ?_)).trans ?_
  · simp [x3, f3]
  refine (seq_nx (if_no ?_)).trans ?_
  · simp [t4, f4]
  refine (seq_nx (if_no ?_)).trans ?_
  · simp [x5, o0, f5]
  refine (seq_nx (if_no ?_)).trans ?_
  · simp [x6, o5, f6]
  refine (seq_nx (if_no ?_)).trans ?_
  · simp [x7, o1, o2, f7]
  refine (seq_nx (if_no ?_)).trans ?_
  · simp [t8, o2, f8]
  refine (seq_nx (e := [some (.sh (.int low)), some (.sh O0), some (.sh TD), some (.sh CD)]) ?_).trans ?_
  · simp [o2, d3]
  refine (seq_nx (if_no ?_)).trans ?_
  · simp [p1]
  refine (seq_nx (if_no ?_)).trans ?_
  · simp [p2]
  refine (seq_nx (if_no ?_)).trans ?_
  · simp [p3]
  refine (seq_nx (if_no ?_)).trans ?_
  · simp [p4]
  simp [p5]
def inT (low : Int) : Tr := .nd .lf low (.nd (.nd .lf (low + 3) (one (low + 4))) (low + 1) (one (low + 2)))
theorem inT_sl (low : Int) : slT (inT low) [] = [[], [sR, sL]] := by simp [inT, slT, one, Tr.rank]; decide +kernel
theorem ch3_sl (low : Int) : slT (ch3 low) [] = [[], [sR]] := by simp [ch3, slT, one, Tr.rank]; decide +kernel
theorem ch3_lean (low : Int) : (ch3 low).lean = .nd (.nd (one (low + 2)) (low + 1) .lf) low .lf := by simp [ch3, Tr.lean, kn, one, Tr.rank]; decide +kernel
theorem up_rl : upW [[], [sR, sL]] = true := by decide +kernel
theorem up_r : upW [[], [sR]] = true := by decide +kernel
theorem inT_heap (low : Int) : (inT low).heap = true := by simp [inT, one, Tr.heap, geTop]; omega
theorem ch3_heap (low : Int) : (ch3 low).heap = true := by simp [ch3, one, Tr.heap, geTop]; omega
theorem inner_body (gL gN : List SV → R) (gS : Nat → List SV → R) (low : Int) (t u o4 o2 : D) (R : RD) (lf4 : gL [.sh (.int (low + 4))] = ok o4) (lf2 : gL [.sh (.int (low + 2))] = ok o2) (ht : t = .tuple [.tuple [], .int low, .tuple [.tuple [.tuple [], .int (low + 3), o4], .int (low + 1), o2]])
    (hn : gN [.sh t] = .val (.rg R)) (fz : R.fzv = some (.ob 2 [u, .list ([[], [sR, sL]].map wd)])) (s1 : gS 2 [.ob 2 [u, .list ([[], [sR, sL]].map wd)], .sh t] = rb true) (s2 : gS 0 [.ob 0 [], .sh u] = rb true) :
    b_l_inner_right gL gN gS [some (.sh (.int low)), none, none] = .rt (.sh (.bool true)) := by
  have ne := fNe_wds [[], [sR, sL]] [[], [sR, sL]]
  have z0 : (RD.ins 0 []).fzv = some (.ob 0 []) := by simp [RD.fzv, RD.toDs]
  simp only [List.map, wd, beq_self_eq_true, Bool.not_true] at ne fz s1
  unfold b_l_inner_right
  refine (seq_nx (e := [some (.sh (.int low)), some (.sh t), none]) ?_).trans ?_
  · simp [lf4, lf2, ht]
  refine (seq_nx (e := [some (.sh (.int low)), some (.sh t), some (.ob 2 [u, .list [.list [], .list [.str "right", .str "left"]]])]) ?_).trans ?_
  · simp [hn, fz]
  refine (seq_nx (if_no ?_)).trans ?_
  · simp [ne]
  refine (seq_nx (if_no ?_)).trans ?_
  · simp [s1]
  simp [s2, z0]
theorem E_l_inner_right (k : Nat) (hk : 80 ≤ k) (hk2 : k ≤ 900) (low : Int) : m_l_inner_right k [.sh (.int low)] = rb true := by
  obtain ⟨k, rfl⟩ : ∃ j, k = j + 1 := ⟨k - 1, by omega⟩
  have sz : (inT low).size = 5 := rfl
  have e := E_leaned (inT low) k (by rw [sz]; omega) (by omega) (by omega) (inT_heap low)
  have so : sortW (slT (inT low) []) = [[], [sR, sL]] := by rw [inT_sl]; exact sortW_up up_rl
  have du := due_own (inT low)
  rw [so] at e du
  have l1 := Leaned_shows (inT low) (inT low).lean [[], [sR, sL]] k (by rw [sz]; omega) (by rw [lean_size, sz]; omega) (by omega) (by omega) (by simp) (by decide +kernel)
  rw [du] at l1
  have l2 := Leans_shows (inT low).lean k (by rw [lean_size, sz]; omega) (by omega)
  rw [lean_leans] at l2
  rw [m_l_inner_right]
  exact run_rt 3 _ _ _ [some (.sh (.int low)), none, none] rfl (inner_body _ _ _ low _ _ _ _ _ (e_leaf k _ (by omega)) (e_leaf k _ (by omega)) rfl e (leanedR_fzv _ _) l1 l2)
theorem fNe_bb (b : Bool) : fNe (.bool b) (.bool b) = rb false := by cases b <;> rfl
theorem sl_loop (g1 g2 : List SV → R) (g3 : Nat → List SV → R) (g4 g5 : List FE → FE) (g6 g7 : List SV → R) (a0 a3 a4 a7 a8 : Option SV) (t u : D) (h5 : ∀ fs env w, evA fs env = .val [.sh (wd w)] → g5 fs env = .val (.rg (slantR w))) : ∀ (ws : List (List Str × Bool)) (x y : Option SV), (∀ p ∈ ws, g3 1 [.ob 1 [wd p.1], .sh t] = rb p.2 ∧ g3 1 [.ob 1 [wd p.1], .sh u] = rb false) →
    ∃ x' y', forL (tg2 5 6) (p_l_leaned_right_k23_1 g1 g2 g3 g4 g5 g6 g7) (ws.map fun p => .tuple [wd p.1, .bool p.2]) [a0, some (.sh t), some (.sh u), a3, a4, x, y, a7, a8] = .nx [a0, some (.sh t), some (.sh u), a3, a4, x', y', a7, a8]
  | [], x, y, _ => ⟨x, y, rfl⟩
  | (w, b) :: ws, x, y, h => by
    obtain ⟨e1, e2⟩ := h (w, b) List.mem_cons_self
    obtain ⟨x', y', e⟩ := sl_loop g1 g2 g3 g4 g5 g6 g7 a0 a3 a4 a7 a8 t u h5 ws (some (.sh (wd w))) (some (.sh (.bool b))) fun p m => h p (List.mem_cons_of_mem _ m)
    refine ⟨x', y', ?_⟩
    rw [List.map_cons, ← e]
    refine forL_go (env' := [a0, some (.sh t), some (.sh u), a3, a4, some (.sh (wd w)), some (.sh (.bool b)), a7, a8]) rfl (if_no ?_)
    have n := h5 [vVar 5] [a0, some (.sh t), some (.sh u), a3, a4, some (.sh (wd w)), some (.sh (.bool b)), a7, a8] w (by simp)
    have z := slantR_fzv w
    generalize hE : [vVar 5] = E at *
    generalize slantR w = S at *
    simp only at e1 e2
    generalize wd w = W at *
    have q := fNe_bb b
    simp [n, z, e1, e2, q]
theorem ln_loop (g1 g2 : List SV → R) (g3 : Nat → List SV → R) (g4 g5 : List FE → FE) (g6 g7 : List SV → R) (a0 a3 a4 a5 a6 a7 : Option SV) (t u : D) (h4 : ∀ fs env ws, ws.length ≤ 100000 → evA fs env = .val [.sh u, .sh (.list (ws.map wd))] → g4 fs env = .val (.rg (leanedR u ws))) : ∀ (W : List (List (List Str))) (x : Option SV), (∀ ws ∈ W, ws.length ≤ 100000 ∧ g3 2 [.ob 2 [u, .list (ws.map wd)], .sh t] = rb false) →
    ∃ x', forL (tgN 8) (p_l_leaned_right_k23_2 g1 g2 g3 g4 g5 g6 g7) (W.map fun ws => .list (ws.map wd)) [a0, some (.sh t), some (.sh u), a3, a4, a5, a6, a7, x] = .nx [a0, some (.sh t), some (.sh u), a3, a4, a5, a6, a7, x']
  | [], x, _ => ⟨x, rfl⟩
  | ws :: W, x, h => by
    obtain ⟨e1, e2⟩ := h ws List.mem_cons_self
    obtain ⟨x', e⟩ := ln_loop g1 g2 g3 g4 g5 g6 g7 a0 a3 a4 a5 a6 a7 t u h4 W (some (.sh (.list (ws.map wd)))) fun p m => h p (List.mem_cons_of_mem _ m)
    refine ⟨x', ?_⟩
    rw [List.map_cons, ← e]
    refine forL_go (env' := [a0, some (.sh t), some (.sh u), a3, a4, a5, a6, a7, some (.sh (.list (ws.map wd)))]) rfl (if_no ?_)
    have n := h4 [vVar 2, vVar 8] [a0, some (.sh t), some (.sh u), a3, a4, a5, a6, a7, some (.sh (.list (ws.map wd)))] ws e1 (by generalize ws.map wd = Q; simp)
    have z := leanedR_fzv u ws
    generalize hE : [vVar 2, vVar 8] = E at *
    generalize leanedR u ws = S at *
    generalize ws.map wd = Q at *
    simp [n, z, e2]
theorem met_rg {c : Nat} {gS : Nat → List SV → R} {g f : FE} {env : VEnv} {A : RD} {fs : List D} {t : D} {r : VL.R} (h : g env = .val (.rg A)) (fz : A.fzv = some (.ob c fs)) (hc : c ≤ 2) (hf : f env = ok t) (s : gS c [.ob c fs, .sh t] = r) : vMet 2 gS g [f] env = r := by
  simp [h, fz, hc, hf, s]
theorem isn_no {f : FE} {env : VEnv} (h : f env = rb true) : op2 fIsn f (vC (.bool true)) env = rb false := by simp [h]
def bnT (low : Int) : Tr := .nd (.nd (one (low + 2)) (low + 1) .lf) low (one (low + 7))
theorem ex_own (low : Int) : exT (ch3 low) [] [[], [sR]] = (ch3 low).lean := by
  have := exT_sort (ch3 low)
  rwa [ch3_sl, sortW_up up_r] at this
theorem due_1 (low : Int) : dueL (ch3 low) (ch3 low).lean [[]] = false := by
  have : exT (ch3 low) [] [[]] ≠ (ch3 low).lean := by rw [ch3_lean]; simp [exT, ch3, one]
  simp [dueL, this]
theorem due_2 (low : Int) : dueL (ch3 low) (ch3 low).lean [[sR]] = false := by
  have : exT (ch3 low) [] [[sR]] ≠ (ch3 low).lean := by rw [ch3_lean]; simp [exT, ch3, one]
  simp [dueL, this]
theorem due_3 (low : Int) : dueL (ch3 low) (ch3 low).lean [[], [sR], [sR, sR]] = false := by
  simp [dueL, ch3_sl]
theorem due_4 (low : Int) : dueL (ch3 low) (ch3 low).lean [[], [], [sR]] = false := by
  have : upW [[], [], [sR]] = false := by decide +kernel
  simp [dueL, this]
theorem due_5 (low : Int) : dueL (ch3 low) (ch3 low).lean [[], [sL]] = false := by
  have := lr_ne
  simp [dueL, ch3_sl, this]
theorem due_6 (low : Int) : dueL (ch3 low) (ch3 low).lean [[sR], []] = false := by
  have : upW [[sR], []] = false := by decide +kernel
  simp [dueL, this]
theorem due_7 (low : Int) : dueL (ch3 low) (ch3 low).lean [] = false := by
  have : exT (ch3 low) [] [] ≠ (ch3 low).lean := by rw [ch3_lean]; simp [exT, ch3, one]
  simp [dueL, this]
theorem due_8 (low : Int) : dueL (ch3 low) (ch3 low) [[], [sR]] = false := by
  have : exT (ch3 low) [] [[], [sR]] ≠ (ch3 low) := by rw [ex_own, ch3_lean]; simp [ch3, one]
  simp [dueL, this]
theorem due_9 (low : Int) : dueL (ch3 low) (bnT low) [[], [sR]] = false := by
  have : exT (ch3 low) [] [[], [sR]] ≠ bnT low := by rw [ex_own, ch3_lean]; simp [bnT, one]
  simp [dueL, this]
def lnLs : List (List (List Str)) := [[[]], [[sR]], [[], [sR], [sR, sR]], [[], [], [sR]], [[], [sL]], [[sR], []], []]
theorem due_all (low : Int) : ∀ ws ∈ lnLs, dueL (ch3 low) (ch3 low).lean ws = false := by
  intro ws h
  simp only [lnLs, List.mem_cons, List.not_mem_nil, or_false] at h
  rcases h with rfl | rfl | rfl | rfl | rfl | rfl | rfl
  · exact due_1 low
  · exact due_2 low
  · exact due_3 low
  · exact due_4 low
  · exact due_5 low
  · exact due_6 low
  · exact due_7 low
def slLs : List (List Str × Bool) := [([], true), ([sR], true), ([sR, sR], false), ([sL], false), (["up"], false), ([sR, sR, sR, sR], false)]
theorem sl_lean (t : Tr) : slT t.lean [] = [] := by
  have := slT_leans t.lean
  rw [lean_leans] at this
  exact List.isEmpty_iff.mp this
theorem sl_all (low : Int) : ∀ p ∈ slLs, decide (p.1 ∈ slT (ch3 low) []) = p.2 ∧ decide (p.1 ∈ slT (ch3 low).lean []) = false := by
  intro p h
  refine ⟨?_, by rw [sl_lean]; rfl⟩
  rw [ch3_sl]
  simp only [slLs, List.mem_cons, List.not_mem_nil, or_false] at h
  rcases h with rfl | rfl | rfl | rfl | rfl | rfl <;> decide +kernel
theorem E_l_leaned_right_k23 (k : Nat) (hk : 90 ≤ k) (hk2 : k ≤ 900) (low : Int) : m_l_leaned_right_k23 k [.sh (.int low)] = rb true := by
  obtain ⟨k, rfl⟩ : ∃ j, k = j + 1 := ⟨k - 1, by omega⟩
  have sz : (ch3 low).size = 3 := rfl
  have szl : (ch3 low).lean.size = 3 := by rw [lean_size, sz]
  have o2 : m_l_leaf k [.sh (.int (low + 2))] = ok (one (low + 2)).d := e_leaf k _ (by omega)
  have o7 : m_l_leaf k [.sh (.int (low + 7))] = ok (one (low + 7)).d := e_leaf k _ (by omega)
  have e := E_leaned (ch3 low) k (by rw [sz]; omega) (by omega) (by omega) (ch3_heap low)
  rw [ch3_sl, sortW_up up_r] at e
  have du := due_own (ch3 low)
  rw [ch3_sl, sortW_up up_r] at du
  have sh : ∀ u ws, u.size ≤ 40 → ws.length ≤ 1000 → ws.all okW = true → m_shows k 2 [.ob 2 [u.d, .list (ws.map wd)], .sh (ch3 low).d] = rb (dueL (ch3 low) u ws) := fun u ws h1 h2 h3 => Leaned_shows (ch3 low) u ws k (by rw [sz]; omega) h1 (by omega) (by omega) h2 h3
  have okR : [[], [sR]].all okW = true := by decide +kernel
  have s1 := sh (ch3 low).lean [[], [sR]] (by omega) (by simp) okR
  rw [du] at s1
  have s8 := sh (ch3 low) [[], [sR]] (by omega) (by simp) okR
  rw [due_8] at s8
  have s9 := sh (bnT low) [[], [sR]] (by simp [bnT, Tr.size, one]) (by simp) okR
  rw [due_9] at s9
  have s7 := Leaned_shows (ch3 low).lean (ch3 low).lean [] k (by omega) (by omega) (by omega) (by omega) (by simp) rfl
  rw [due_lean _ _ rfl] at s7
  have j1 := E_judged (ch3 low) k (by omega) (by omega) (by omega) (ch3_heap low)
  have j2 := E_judged (ch3 low).lean k (by omega) (by omega) (by omega) (lean_heap (ch3_heap low))
  have jz1 : (judR (ch3 low)).fzv = some (.ob 1 [wd []]) := by rw [judR, ch3_sl]; rfl
  have jz2 : (judR (ch3 low).lean).fzv = some (.ob 0 []) := by rw [judR, sl_lean]; rfl
  have l1 := Leans_shows (ch3 low) k (by omega) (by omega)
  have l2 := Leans_shows .lf k (by simp [Tr.size]; omega) (by omega)
  have ll : (ch3 low).leans = false := by rw [← slT_leans, ch3_sl]; rfl
  rw [ll] at l1
  have okA : ∀ ws ∈ lnLs, ws.length ≤ 1000 ∧ ws.all okW = true := by decide +kernel
  have lp1 := sl_loop (m_l_leaf k) (m_leaned k) (m_shows k) (m_Leaned k) (m_Slants k) (m_judged k) (m_l_inner_right k) (some (.sh (.int low))) (some (.ob 2 [(ch3 low).lean.d, .list ([[], [sR]].map wd)])) (some (.sh (.list (slLs.map fun p => .tuple [wd p.1, .bool p.2])))) none none (ch3 low).d (ch3 low).lean.d (fun fs env w h => new_slants k (by omega) fs env w h) slLs none none fun p hp => by
    have h1 := Slants_shows (ch3 low) p.1 k (by omega)
    have h2 := Slants_shows (ch3 low).lean p.1 k (by omega)
    rw [slB_knT] at h1 h2
    obtain ⟨q1, q2⟩ := sl_all low p hp
    rw [q1] at h1
    rw [q2] at h2
    exact ⟨h1, h2⟩
  obtain ⟨x5, x6, lp1⟩ := lp1
  have lp2 := ln_loop (m_l_leaf k) (m_leaned k) (m_shows k) (m_Leaned k) (m_Slants k) (m_judged k) (m_l_inner_right k) (some (.sh (.int low))) (some (.ob 2 [(ch3 low).lean.d, .list ([[], [sR]].map wd)])) (some (.sh (.list (lnLs.map fun ws => .list (ws.map wd))))) x5 x6 (some (.sh (bnT low).d)) (ch3 low).d (ch3 low).lean.d (fun fs env ws l h => new_leaned k (by omega) fs env _ ws l h) lnLs none fun ws hw => by
    obtain ⟨q1, q2⟩ := okA ws hw
    refine ⟨by omega, ?_⟩
    have := sh (ch3 low).lean ws (by omega) q1 q2
    rwa [due_all low ws hw] at this
  obtain ⟨x8, lp2⟩ := lp2
  have inn := E_l_inner_right k (by omega) (by omega) low
  have nu : fNe (ch3 low).lean.d (ch3 low).lean.d = rb false := by rw [fNe_d (by omega)]; simp
  have nw := fNe_wds [[], [sR]] [[], [sR]]
  have du : (ch3 low).lean.d = .tuple [.tuple [(one (low + 2)).d, .int (low + 1), .tuple []], .int low, .tuple []] := by rw [ch3_lean]; rfl
  have dt : (ch3 low).d = .tuple [.tuple [], .int low, .tuple [.tuple [], .int (low + 1), (one (low + 2)).d]] := rfl
  have db : (bnT low).d = .tuple [.tuple [(one (low + 2)).d, .int (low + 1), .tuple []], .int low, (one (low + 7)).d] := rfl
  have nL : ∀ fs env d (ws : List (List Str)), ws.length ≤ 1000 → evA fs env = .val [.sh d, .sh (.list (ws.map wd))] → m_Leaned k fs env = .val (.rg (leanedR d ws)) := fun fs env d ws l h => new_leaned k (by omega) fs env d ws (by omega) h
  have fzL := leanedR_fzv
  have z0 : (RD.ins 0 []).fzv = some (.ob 0 []) := by simp [RD.fzv, RD.toDs]
  rw [m_l_leaned_right_k23]
  refine run_rt 9 _ _ _ [some (.sh (.int low)), none, none, none, none, none, none, none, none] rfl ?_
  unfold b_l_leaned_right_k23
  simp only [Tr.d] at l2
  clear sh okA okR j2 jz2
  have j2 := E_judged (ch3 low).lean k (by omega) (by omega) (by omega) (lean_heap (ch3_heap low))
  have jz2 : (judR (ch3 low).lean).fzv = some (.ob 0 []) := by rw [judR, sl_lean]; rfl
  generalize judR (ch3 low).lean = J2 at *
  generalize judR (ch3 low) = J1 at *
  generalize m_l_leaf k = gL at *
  generalize m_leaned k = gN at *
  generalize m_shows k = gS at *
  generalize m_Leaned k = gE at *
  generalize m_Slants k = gA at *
  generalize m_judged k = gJ at *
  generalize m_l_inner_right k = gI at *
  generalize (ch3 low).lean.d = U at *
  generalize (bnT low).d = B at *
  generalize (ch3 low).d = T at *
  generalize (one (low + 2)).d = O2 at *
  generalize (one (low + 7)).d = O7 at *
  refine (seq_nx (e := [some (.sh (.int low)), some (.sh T), none, none, none, none, none, none, none]) ?_).trans ?_
  · simp [o2, dt]
  refine (seq_nx (e := [some (.sh (.int low)), some (.sh T), some (.sh U), none, none, none, none, none, none]) ?_).trans ?_
  · simp [o2, du]
  refine (seq_nx (e := [some (.sh (.int low)), some (.sh T), some (.sh U), some (.ob 2 [U, .list ([[], [sR]].map wd)]), none, none, none, none, none]) ?_).trans ?_
  · simp [e, fzL]
  have mL : ∀ fs env f u (ws : List (List Str)) r, evA fs env = .val [.sh u, .sh (.list (ws.map wd))] → ws.length ≤ 1000 → f env = ok T → gS 2 [.ob 2 [u, .list (ws.map wd)], .sh T] = r → vMet 2 gS (gE fs) [f] env = r := fun fs env f u ws r h1 h2 h3 h4 => met_rg (nL fs env u ws h2 h1) (fzL u ws) (by omega) h3 h4
  refine (seq_nx (if_no ?_)).trans ?_
  · simp [nu]
  refine (seq_nx (if_no ?_)).trans ?_
  · simp [wd] at nw
    simp [nw, wd]
  refine (seq_nx (if_no (isn_no ?_))).trans ?_
  · generalize List.map wd [[], [sR]] = W at *
    simp [s1]
  refine (seq_nx (if_no (isn_no (mL _ _ _ U [[], [sR]] _ ?_ (by simp) ?_ s1)))).trans ?_
  · simp [wd]
  · simp
  refine (seq_nx (e := [some (.sh (.int low)), some (.sh T), some (.sh U), some (.ob 2 [U, .list ([[], [sR]].map wd)]), some (.sh (.list ((slLs.take 3).map fun p => .tuple [wd p.1, .bool p.2]))), none, none, none, none]) ?_).trans ?_
  · simp [wd, slLs]
  refine (seq_nx (e := [some (.sh (.int low)), some (.sh T), some (.sh U), some (.ob 2 [U, .list ([[], [sR]].map wd)]), some (.sh (.list (slLs.map fun p => .tuple [wd p.1, .bool p.2]))), none, none, none, none]) ?_).trans ?_
  · simp [wd, slLs]
  refine (seq_nx (e := [some (.sh (.int low)), some (.sh T), some (.sh U), some (.ob 2 [U, .list ([[], [sR]].map wd)]), some (.sh (.list (slLs.map fun p => .tuple [wd p.1, .bool p.2]))), x5, x6, none, none]) ?_).trans ?_
  · have ll : (slLs.map fun p => PyData.tuple [wd p.1, .bool p.2]).length ≤ 1000000 := by simp [slLs]
    generalize (slLs.map fun p => PyData.tuple [wd p.1, .bool p.2]) = Q at *
    generalize List.map wd [[], [sR]] = W at *
    simp [lp1, ll]
  refine (seq_nx (e := [some (.sh (.int low)), some (.sh T), some (.sh U), some (.ob 2 [U, .list ([[], [sR]].map wd)]), some (.sh (.list (slLs.map fun p => .tuple [wd p.1, .bool p.2]))), x5, x6, some (.sh B), none]) ?_).trans ?_
  · rw [du]
    simp [o7, db]
  refine (seq_nx (e := [some (.sh (.int low)), some (.sh T), some (.sh U), some (.ob 2 [U, .list ([[], [sR]].map wd)]), some (.sh (.list ((lnLs.take 3).map fun (ws : List (List Str)) => PyData.list (ws.map wd)))), x5, x6, some (.sh B), none]) ?_).trans ?_
  · simp [wd, lnLs]
  refine (seq_nx (e := [some (.sh (.int low)), some (.sh T), some (.sh U), some (.ob 2 [U, .list ([[], [sR]].map wd)]), some (.sh (.list (lnLs.map fun ws => .list (ws.map wd)))), x5, x6, some (.sh B), none]) ?_).trans ?_
  · simp [wd, lnLs]
  refine (seq_nx (e := [some (.sh (.int low)), some (.sh T), some (.sh U), some (.ob 2 [U, .list ([[], [sR]].map wd)]), some (.sh (.list (lnLs.map fun ws => .list (ws.map wd)))), x5, x6, some (.sh B), x8]) ?_).trans ?_
  · have ll : (lnLs.map fun ws => PyData.list (ws.map wd)).length ≤ 1000000 := by simp [lnLs]
    generalize (lnLs.map fun ws => PyData.list (ws.map wd)) = Q at *
    generalize List.map wd [[], [sR]] = W at *
    simp [lp2, ll]
  refine (seq_nx (if_no (mL _ _ _ T [[], [sR]] _ ?_ (by simp) ?_ s8))).trans ?_
  · simp [wd]
  · simp
  refine (seq_nx (if_no (mL _ _ _ B [[], [sR]] _ ?_ (by simp) ?_ s9))).trans ?_
  · simp [wd]
  · simp
  refine (seq_nx (if_no (isn_no (met_rg (nL _ _ U [] (by simp) ?_) (fzL U []) (by omega) (t := U) ?_ s7)))).trans ?_
  · simp
  · simp
  refine (seq_nx (if_no ?_)).trans ?_
  · simp [j1, jz1]
  refine (seq_nx (if_no ?_)).trans ?_
  · simp [j2, jz2]
  refine (seq_nx (if_no ?_)).trans ?_
  · simp [z0, l1]
  refine (seq_nx (if_no (isn_no ?_))).trans ?_
  · simp [z0, l2]
    rfl
  simp [inn]
theorem is_form_over (k : Nat) (th z : Option SV) (ts : List D) (x : Int) (l r : D) : p_is_form_2 (m_is_key (k + 1)) [th, some (.ow (ts ++ [.tuple [l, .int x, r]])), some (.sh (.int 40)), z] = .rt (.sh (.bool false)) := by
  simp [p_is_form_2, e_is_key]
theorem is_form_big (k : Nat) (th : Option SV) : ∀ (n : Nat) (ts : List Tr) (c : Nat) (z : Option SV), 2 * (40 - c) + ts.length < n → c ≤ 40 → 40 < c + szs ts → ts.length + (40 - c) ≤ 900 →
    sWhile n (p_is_form_1 (m_is_key (k + 1))) (p_is_form_2 (m_is_key (k + 1))) [th, some (.ow (ts.map Tr.d)), some (.sh (.int (c : Nat))), z] = .rt (.sh (.bool false))
  | 0, _, _, _, h, _, _, _ => by omega
  | n + 1, ts, c, z, h, h1, h2, h3 => by
    rcases list_last ts with rfl | ⟨L, b, rfl⟩
    · simp [szs] at h2; omega
    · rw [szs_append] at h2
      simp only [List.length_append, List.length_cons, List.length_nil] at h h3
      rw [List.map_append]
      have cc : p_is_form_1 (m_is_key (k + 1)) [th, some (.ow (L.map Tr.d ++ [b].map Tr.d)), some (.sh (.int (c : Nat))), z] = rb true := by rw [is_form_c]; simp
      cases b with
      | lf =>
        have hs : szs [Tr.lf] = 0 := rfl
        rw [hs] at h2
        rw [sWhile_go cc (is_form_lf _ _ _ _ _)]
        exact is_form_big k th n L c _ (by omega) h1 (by omega) (by omega)
      | nd l x r =>
        have hs : szs [Tr.nd l x r] = 1 + l.size + r.size := by simp [szs, Tr.size]
        have hs2 : szs [l, r] = l.size + r.size := by simp [szs]
        rw [hs] at h2
        by_cases c4 : c = 40
        · subst c4
          exact sWhile_rt cc (is_form_over k th z _ x l.d r.d)
        · rw [sWhile_go cc (is_form_nd k th z _ c x l.d r.d (by omega) (by simp; omega))]
          have ih := is_form_big k th n (L ++ [l, r]) (c + 1) (some (.sh (Tr.nd l x r).d)) (by simp only [List.length_append, List.length_cons, List.length_nil]; omega) (by omega) (by rw [szs_append, hs2]; omega) (by simp only [List.length_append, List.length_cons, List.length_nil]; omega)
          rw [List.map_append] at ih
          exact ih
theorem e_is_form_big (t : Tr) (k : Nat) (h : 40 < t.size) : m_is_form (k + 2) [.sh t.d] = rb false := by
  have hs : szs [t] = t.size := by simp [szs]
  have e := is_form_big k (some (.sh t.d)) WF [t] 0 none (by unfold WF; simp) (by omega) (by rw [hs]; omega) (by simp)
  simp only [List.map_cons, List.map_nil] at e
  have e : sWhile WF (p_is_form_1 (m_is_key (k + 1))) (p_is_form_2 (m_is_key (k + 1))) [some (.sh t.d), some (.ow [t.d]), some (.sh (.int 0)), none] = .rt (.sh (.bool false)) := e
  generalize t.d = T at *
  simp [m_is_form, b_is_form, e]
theorem E_check_heap_big (t : Tr) (k : Nat) (h : 40 < t.size) (hk : 3 ≤ k) : m_check_heap k [.sh t.d] = .err "BadHeap" := by
  obtain ⟨j, rfl⟩ : ∃ j, k = j + 3 := ⟨k - 3, by omega⟩
  have e := e_is_form_big t j h
  generalize t.d = T at *
  simp [m_check_heap, b_check_heap, e]
theorem E_keys_big (t : Tr) (k : Nat) (h : 40 < t.size) (hk : 4 ≤ k) : m_keys_of k [.sh t.d] = .err "BadHeap" := by
  obtain ⟨j, rfl⟩ : ∃ j, k = j + 1 := ⟨k - 1, by omega⟩
  have e := E_check_heap_big t j h (by omega)
  generalize t.d = T at *
  simp [m_keys_of, b_keys_of, e]
theorem E_purse_big (t : Tr) (k : Nat) (h : 40 < t.size) (hk : 4 ≤ k) : m_purse k [.sh t.d] = .err "BadHeap" := by
  obtain ⟨j, rfl⟩ : ∃ j, k = j + 1 := ⟨k - 1, by omega⟩
  have e := E_check_heap_big t j h (by omega)
  generalize t.d = T at *
  simp [m_purse, b_purse, e]
theorem E_both_many (a b : Tr) (k : Nat) (h : 40 < a.size + b.size) (h1 : a.size ≤ 40) (h2 : b.size ≤ 40) (hk : 60 ≤ k) (ha : a.heap = true) (hb : b.heap = true) : m_check_both k [.sh a.d, .sh b.d] = .err "TooMany" := by
  obtain ⟨j, rfl⟩ : ∃ j, k = j + 1 := ⟨k - 1, by omega⟩
  have e1 := E_check_heap a j h1 (by omega)
  have e2 := E_check_heap b j h2 (by omega)
  rw [if_pos ha] at e1
  rw [if_pos hb] at e2
  have s1 := e_size_of a j (by omega)
  have s2 := e_size_of b j (by omega)
  have c : (40 : Int) < (a.size : Int) + (b.size : Int) := by omega
  generalize a.d = A at *
  generalize b.d = B at *
  simp [m_check_both, b_check_both, e1, e2, s1, s2, c]
theorem E_lean_join_many (a b : Tr) (k : Nat) (h : 40 < a.size + b.size) (h1 : a.size ≤ 40) (h2 : b.size ≤ 40) (hk : 62 ≤ k) (ha : a.heap = true) (hb : b.heap = true) : m_lean_join k [.sh a.d, .sh b.d] = .err "TooMany" := by
  obtain ⟨j, rfl⟩ : ∃ j, k = j + 1 := ⟨k - 1, by omega⟩
  have e := E_both_many a b j h h1 h2 (by omega) ha hb
  generalize a.d = A at *
  generalize b.d = B at *
  simp [m_lean_join, b_lean_join, e]
theorem E_pile_put_many (ps : List Bn) (x : Int) (k : Nat) (hk : 60 ≤ k) (hp : PileOk ps) (ht : (pks ps).length = 40) : m_pile_put k [.sh (.list (ps.map Bn.d)), .sh (.int x)] = .err "TooMany" := by
  obtain ⟨k, rfl⟩ : ∃ j, k = j + 1 := ⟨k - 1, by omega⟩
  have l1 := pile_len hp
  have a1 := E_check_pile ps k (by omega) hp
  have a2 : m_check_key k [.sh (.int x)] = .val (.sh .none) := by
    obtain ⟨j, rfl⟩ : ∃ j, k = j + 2 := ⟨k - 2, by omega⟩
    have := e_is_key j x
    rw [m_check_key]
    simp [b_check_key, this]
  have b1 := e_count_of ps k (by omega) (by omega) hp.ok
  rw [ht] at b1
  rw [m_pile_put]
  unfold b_pile_put
  generalize ps.map Bn.d = P at *
  generalize vLc [2] (tgN 2) (itD iL (vVar 0)) (vC (.bool true)) (calF 1 (m_copied k) [vVar 2]) = CC at *
  simp [a1, a2, b1]
theorem calL_ok {n : Nat} {M : (List SV → R) → List SV → R} {fb : FE} {js : List Nat} {fs : List FE} {env : VEnv} {cs as : List SV} {r : D} (h1 : capS env js = some cs) (h2 : evA fs env = .val as) (h3 : as.length + 1 = n) (h4 : allSh as = true) (h5 : M (fun bs => errOf (fb ((bs ++ cs).map some))) (.ob 104 [.int 0] :: as) = ok r) : calL n M fb js fs env = ok r := by
  unfold calL
  rw [h1, h2]
  simp only [h3, h4, and_self, if_true, h5, shR]
theorem shp_bls (a b c d : Bool) : SeqAt.shaped (.list [.bool a, .bool b, .bool c, .bool d]) = true := by simp [SeqAt.shaped, PyData.canLay0, PyData.canLayAll0, PyData.depth, PyData.depthAll]
theorem e_sort_many (m : List SV → R) (k : Nat) (x : D) (hk : 1 ≤ k) (h : m [.sh x] = .err "TooMany") : m_l_sort (fun _ => m) k [.ob 104 [.int 0], .sh x] = ok (.str "many") := by
  obtain ⟨k, rfl⟩ : ∃ j, k = j + 1 := ⟨k - 1, by omega⟩
  have s2 : SeqAt.shaped (.bool true) = true := by decide
  have c1 : (("TooMany" : Str) == "BadHeap") = false := by decide +kernel
  have c2 : (("TooMany" : Str) == "BadPile") = false := by decide +kernel
  have c3 : (("TooMany" : Str) == "TooMany") = true := by decide +kernel
  simp [m_l_sort, b_l_sort, h, c1, c2, c3, shp_bls, s2, List.findIdx?, List.findIdx?.go, PyData.eqv]
theorem e_sort_heap (m : List SV → R) (k : Nat) (x : D) (hk : 1 ≤ k) (h : m [.sh x] = .err "BadHeap") : m_l_sort (fun _ => m) k [.ob 104 [.int 0], .sh x] = ok (.str "heap") := by
  obtain ⟨k, rfl⟩ : ∃ j, k = j + 1 := ⟨k - 1, by omega⟩
  have s2 : SeqAt.shaped (.bool true) = true := by decide
  have c1 : (("BadHeap" : Str) == "BadHeap") = true := by decide +kernel
  have c2 : (("BadHeap" : Str) == "BadPile") = false := by decide +kernel
  have c3 : (("BadHeap" : Str) == "TooMany") = false := by decide +kernel
  simp [m_l_sort, b_l_sort, h, c1, c2, c3, shp_bls, s2, List.findIdx?, List.findIdx?.go, PyData.eqv]
theorem e_sort_pile (m : List SV → R) (k : Nat) (x : D) (hk : 1 ≤ k) (h : m [.sh x] = .err "BadPile") : m_l_sort (fun _ => m) k [.ob 104 [.int 0], .sh x] = ok (.str "pile") := by
  obtain ⟨k, rfl⟩ : ∃ j, k = j + 1 := ⟨k - 1, by omega⟩
  have s2 : SeqAt.shaped (.bool true) = true := by decide
  have c1 : (("BadPile" : Str) == "BadHeap") = false := by decide +kernel
  have c2 : (("BadPile" : Str) == "BadPile") = true := by decide +kernel
  have c3 : (("BadPile" : Str) == "TooMany") = false := by decide +kernel
  simp [m_l_sort, b_l_sort, h, c1, c2, c3, shp_bls, s2, List.findIdx?, List.findIdx?.go, PyData.eqv]
def shrT (low : Int) : Nat → Tr
  | 0 => one low
  | n + 1 => .nd (shrT low n) low (shrT low n)
theorem shrT_size (low : Int) : ∀ n, n + 1 ≤ (shrT low n).size
  | 0 => by simp [shrT, one, Tr.size]
  | n + 1 => by
    have := shrT_size low n
    simp only [shrT, Tr.size]; omega
theorem sh_loop (g1 g2 g3 : List SV → R) (g4 : (List SV → R) → List SV → R) (g5 g6 g7 g8 : List SV → R) (low : Int) (a1 a3 a5 : Option SV) : ∀ (m i : Nat) (z : Option SV), ∃ y, forL (tgN 4) (p_l_pile_refused_right_1 g1 g2 g3 g4 g5 g6 g7 g8) ((List.range' i m).map fun (j : Nat) => .int (0 + (j : Int) * 1)) [some (.sh (.int low)), a1, some (.sh (shrT low i).d), a3, z, a5] = .nx [some (.sh (.int low)), a1, some (.sh (shrT low (i + m)).d), a3, y, a5]
  | 0, i, z => ⟨z, rfl⟩
  | m + 1, i, z => by
    obtain ⟨y, ih⟩ := sh_loop g1 g2 g3 g4 g5 g6 g7 g8 low a1 a3 a5 m (i + 1) (some (.sh (.int (0 + (i : Int) * 1))))
    refine ⟨y, ?_⟩
    rw [show i + (m + 1) = (i + 1) + m by omega, ← ih, List.range'_succ, List.map_cons]
    refine forL_go (env' := [some (.sh (.int low)), a1, some (.sh (shrT low i).d), a3, some (.sh (.int (0 + (i : Int) * 1))), a5]) rfl ?_
    simp only [shrT, Tr.d]
    generalize (shrT low i).d = A
    generalize 0 + (i : Int) * 1 = J
    simp [p_l_pile_refused_right_1]
theorem E_bad_pile (low : Int) (k : Nat) (hk : 10 ≤ k) : m_check_pile k [.sh (.list [.tuple [.int low, .list [.tuple [.int low, .list []]]], .tuple [.int low, .list []]])] = .err "BadPile" ∧ m_check_pile k [.sh (.list [.tuple [.int low, .list []], .tuple [.int low, .list []]])] = .err "BadPile" := by
  obtain ⟨k, rfl⟩ : ∃ j, k = j + 2 := ⟨k - 2, by omega⟩
  have o1 := E_order_of (.leaf low) k (by omega)
  have o2 := E_order_of (.link (.leaf low) (.leaf low)) k (by omega)
  have t1 := e_is_tree k (.leaf low) trivial (by simp [Bn.ord]; omega)
  have t2 := e_is_tree k (.link (.leaf low) (.leaf low)) ⟨rfl, by simp [Bn.key], trivial, trivial⟩ (by simp [Bn.ord]; omega)
  simp only [Bn.d, Bn.cs, Bn.key, Bn.ord] at o1 o2 t1 t2
  have o1 : m_order_of k [.sh (.tuple [.int low, .list []])] = ri 0 := o1
  have o2 : m_order_of k [.sh (.tuple [.int low, .list [.tuple [.int low, .list []]]])] = ri 1 := o2
  have t1 : m_is_tree k [.sh (.tuple [.int low, .list []]), .sh (.int 0)] = rb true := t1
  have t2 : m_is_tree k [.sh (.tuple [.int low, .list [.tuple [.int low, .list []]]]), .sh (.int 1)] = rb true := t2
  constructor
  · simp [m_check_pile, b_check_pile, m_is_pile, b_is_pile, forL, p_is_pile_1, o1, o2, t1, t2]
  · simp [m_check_pile, b_check_pile, m_is_pile, b_is_pile, forL, p_is_pile_1, o1, o2, t1, t2]
theorem fNe_sts (s : Str) : fNe (.str s) (.str s) = rb false := by
  unfold fNe
  simp [PyData.depth, PyData.eqv]
theorem fEq_sts (s : Str) : fEq (.str s) (.str s) = rb true := by
  unfold fEq
  simp [PyData.depth, PyData.eqv]
theorem ne_lit {f : FE} {env : VEnv} {s : Str} (h : f env = ok (.str s)) : op2 fNe f (vC (.str s)) env = rb false := by simp [h, fNe_sts]
theorem eq_lit {f : FE} {env : VEnv} {s : Str} (h : f env = ok (.str s)) : op2 fEq f (vC (.str s)) env = rb true := by simp [h, fEq_sts]
theorem ret_of {f : FE} {env : VEnv} {v : SV} (h : f env = .val v) : sRet f env = .rt v := by simp [h]
theorem pref_body (g1 g2 g3 : List SV → R) (g4 : (List SV → R) → List SV → R) (g5 g6 g7 g8 : List SV → R) (low n : Int) (P : List D) (O S : D) (y : Option SV) (RG : List D) (hR : (itA iR1 [vC (.int 60)]) = fun _ => .val RG) (h1 : g1 [.sh (.list ((List.replicate 40 low).map .int))] = ok (.tuple [.list P, .int n])) (h2 : g2 [.sh (.int low)] = ok O)
    (lp : forL (tgN 4) (p_l_pile_refused_right_1 g1 g2 g3 g4 g5 g6 g7 g8) RG [some (.sh (.int low)), some (.sh (.list P)), some (.sh O), some (.sh (.tuple [.int low, .list []])), none, none] = .nx [some (.sh (.int low)), some (.sh (.list P)), some (.sh S), some (.sh (.tuple [.int low, .list []])), y, none])
    (m1 : ∀ m x, m [.sh x] = .err "TooMany" → g4 m [.ob 104 [.int 0], .sh x] = ok (.str "many")) (m2 : ∀ m x, m [.sh x] = .err "BadHeap" → g4 m [.ob 104 [.int 0], .sh x] = ok (.str "heap")) (m3 : ∀ m x, m [.sh x] = .err "BadPile" → g4 m [.ob 104 [.int 0], .sh x] = ok (.str "pile"))
    (h3 : g3 [.sh (.list P), .sh (.int low)] = .err "TooMany") (h5 : g5 [.sh S] = .err "BadHeap") (h6 : g6 [.sh S] = .err "BadHeap") (h7 : g7 [.sh (.list [.tuple [.int low, .list [.tuple [.int low, .list []]]], .tuple [.int low, .list []]])] = .err "BadPile") (h8 : g8 [.sh (.list [.tuple [.int low, .list []], .tuple [.int low, .list []]])] = .err "BadPile") :
    b_l_pile_refused_right g1 g2 g3 g4 g5 g6 g7 g8 [some (.sh (.int low)), none, none, none, none, none] = .rt (.sh (.bool true)) := by
  have fm : fMul (.list [.int low]) (.int 40) = .val (.ow ((List.replicate 40 low).map .int)) := by simp [fMul]
  unfold b_l_pile_refused_right
  generalize p_l_pile_refused_right_1 g1 g2 g3 g4 g5 g6 g7 g8 = PP at *
  generalize (List.replicate 40 low).map PyData.int = LL at *
  refine (seq_nx (e := [some (.sh (.int low)), some (.sh (.list P)), some (.sh O), some (.sh (.tuple [.int low, .list []])), none, none]) ?_).trans ?_
  · simp [fm, h1, h2, -fMul]
  refine (seq_nx (e := [some (.sh (.int low)), some (.sh (.list P)), some (.sh S), some (.sh (.tuple [.int low, .list []])), y, none]) ?_).trans ?_
  · rw [hR]; simp only [sFor]; exact lp
  refine (seq_nx (if_no (ne_lit (calL_ok (cs := [.sh (.list P)]) (as := [.sh (.int low)]) (by simp [capS]) (by simp) rfl rfl (m1 _ _ ?_))))).trans ?_
  · simp [h3, errOf]
  refine (seq_nx (if_no (ne_lit (calL_ok (cs := []) (as := [.sh S]) (by simp [capS]) (by simp) rfl rfl (m2 _ _ ?_))))).trans ?_
  · simp [h5, errOf]
  refine (seq_nx (if_no (ne_lit (calL_ok (cs := []) (as := [.sh S]) (by simp [capS]) (by simp) rfl rfl (m2 _ _ ?_))))).trans ?_
  · simp [h6, errOf]
  refine (seq_nx (e := [some (.sh (.int low)), some (.sh (.list P)), some (.sh S), some (.sh (.tuple [.int low, .list []])), y, some (.sh (.tuple [.int low, .list [.tuple [.int low, .list []]]]))]) ?_).trans ?_
  · simp
  refine (seq_nx (if_no (ne_lit (calL_ok (cs := []) (as := [.sh (.list [.tuple [.int low, .list [.tuple [.int low, .list []]]], .tuple [.int low, .list []]])]) (by simp [capS]) (by simp) rfl rfl (m3 _ _ ?_))))).trans ?_
  · simp [h7, errOf]
  refine ret_of (eq_lit (calL_ok (cs := []) (as := [.sh (.list [.tuple [.int low, .list []], .tuple [.int low, .list []]])]) (by simp [capS]) (by simp) rfl rfl (m3 _ _ ?_)))
  simp [h8, errOf]
theorem E_l_pile_refused_right (k : Nat) (hk : 80 ≤ k) (low : Int) : m_l_pile_refused_right k [.sh (.int low)] = rb true := by
  obtain ⟨k, rfl⟩ : ∃ j, k = j + 3 := ⟨k - 3, by omega⟩
  obtain ⟨ps, n, p1, p2, p3, p4⟩ := E_pile_of (List.replicate 40 low) (k + 2) (by omega) (by simp) fun j hj => E_check_keys _ j (by simp) (by omega)
  have l40 : (pks ps).length = 40 := by rw [p2.length_eq]; simp
  have h3 := E_pile_put_many ps low k (by omega) p1 l40
  have sz := shrT_size low 60
  have h5 := E_keys_big (shrT low 60) k (by omega) (by omega)
  have h6 := E_purse_big (shrT low 60) k (by omega) (by omega)
  obtain ⟨k, rfl⟩ : ∃ j, k = j + 1 := ⟨k - 1, by omega⟩
  obtain ⟨b1, b2⟩ := E_bad_pile low k (by omega)
  have h7 : m_pile_keys (k + 1) [.sh (.list [.tuple [.int low, .list [.tuple [.int low, .list []]]], .tuple [.int low, .list []]])] = .err "BadPile" := by simp [m_pile_keys, b_pile_keys, b1]
  have h8 : m_pile_take (k + 1) [.sh (.list [.tuple [.int low, .list []], .tuple [.int low, .list []]])] = .err "BadPile" := by simp [m_pile_take, b_pile_take, b2]
  obtain ⟨y, lp⟩ := sh_loop (m_pile_of (k + 1 + 2)) (m_l_leaf (k + 1 + 2)) (m_pile_put (k + 1)) (fun m1 => m_l_sort (fun _ => m1) (k + 1 + 2)) (m_keys_of (k + 1)) (m_purse (k + 1)) (m_pile_keys (k + 1)) (m_pile_take (k + 1)) low (some (.sh (.list (ps.map Bn.d)))) (some (.sh (.tuple [.int low, .list []]))) none 60 0 none
  have e60 : ((List.range' 0 60).map fun (j : Nat) => PyData.int (0 + (j : Int) * 1)) = rngD 0 1 60 := by unfold rngD; rw [List.range_eq_range']
  rw [e60, Nat.zero_add] at lp
  rw [m_l_pile_refused_right]
  exact run_rt 6 _ _ _ _ rfl (pref_body _ _ _ _ _ _ _ _ low n (ps.map Bn.d) (one low).d (shrT low 60).d y (rngD 0 1 60) (by funext env; simp) p4 (e_leaf _ _ (by omega)) lp (fun m x h => e_sort_many m _ x (by omega) h) (fun m x h => e_sort_heap m _ x (by omega) h) (fun m x h => e_sort_pile m _ x (by omega) h) h3 h5 h6 h7 h8)
def kyL (low c q : Int) (m : Nat) : List Int := (List.range m).map fun (i : Nat) => low + (i : Int) * c % q
theorem kyL_len (low c q : Int) (m : Nat) : (kyL low c q m).length = m := by simp [kyL]
theorem lc_ky (low : Int) (m : Nat) (env : VEnv) (l12 : env.length = 12) (h0 : env[0]? = some (some (.sh (.int low)))) : lcGo (tgN 9) (vC (.bool true)) (op2 fAdd (vVar 0) (op2 fMod (op2 fMul (vVar 9) (vC (.int 3))) (vC (.int 41)))) env (rngD 0 1 m) = some ((kyL low 3 41 m).map .int) := by
  unfold rngD kyL
  rw [List.map_map]
  refine lcGo_map _ _ _ fun i _ => ⟨env.set 9 (some (.sh (.int (0 + (i : Int) * 1)))), rfl, rfl, ?_⟩
  have g0 : (env.set 9 (some (.sh (.int (0 + (i : Int) * 1)))))[0]? = some (some (.sh (.int low))) := by rw [List.getElem?_set_ne (by decide)]; exact h0
  have g5 : (env.set 9 (some (SV.sh (.int (0 + (i : Int) * 1)))))[9]? = some (some (.sh (.int (0 + (i : Int) * 1)))) := List.getElem?_set_self (by omega)
  have e : 0 + (i : Int) * 1 = i := by omega
  rw [e] at g0 g5 ⊢
  have mo : mulOk (i : Int) 3 = true := mulOk_right (by decide) (by decide)
  generalize env.set 9 (some (SV.sh (.int (i : Int)))) = E2 at *
  simp [op2, vVar, g0, g5, mo]
theorem lc_k4 (low : Int) (m : Nat) (env : VEnv) (l12 : env.length = 12) (h0 : env[0]? = some (some (.sh (.int low)))) : lcGo (tgN 9) (vC (.bool true)) (op2 fAdd (vVar 0) (op2 fMod (vVar 9) (vC (.int 4)))) env (rngD 0 1 m) = some ((kyL low 1 4 m).map .int) := by
  unfold rngD kyL
  rw [List.map_map]
  refine lcGo_map _ _ _ fun i _ => ⟨env.set 9 (some (.sh (.int (0 + (i : Int) * 1)))), rfl, rfl, ?_⟩
  have g0 : (env.set 9 (some (.sh (.int (0 + (i : Int) * 1)))))[0]? = some (some (.sh (.int low))) := by rw [List.getElem?_set_ne (by decide)]; exact h0
  have g5 : (env.set 9 (some (SV.sh (.int (0 + (i : Int) * 1)))))[9]? = some (some (.sh (.int (0 + (i : Int) * 1)))) := List.getElem?_set_self (by omega)
  have e : 0 + (i : Int) * 1 = i := by omega
  have e2 : (i : Int) * 1 = i := by omega
  rw [e] at g0 g5 ⊢
  simp only [Function.comp, e2]
  generalize env.set 9 (some (SV.sh (.int (i : Int)))) = E2 at *
  simp [op2, vVar, g0, g5]
def bitL (m : Nat) : List Int := (List.range 6).map fun (j : Nat) => Builtin.bitAnd ((m : Int) / 2 ^ j) 1
theorem lc_bit (m : Nat) (env : VEnv) (l12 : env.length = 12) (h1 : env[1]? = some (some (.sh (.int (m : Nat))))) : lcGo (tgN 11) (vC (.bool true)) (op2 fAnd (op2 fShr (vVar 1) (vVar 11)) (vC (.int 1))) env (rngD 0 1 6) = some ((bitL m).map .int) := by
  unfold rngD bitL
  rw [List.map_map]
  refine lcGo_map _ _ _ fun i _ => ⟨env.set 11 (some (.sh (.int (0 + (i : Int) * 1)))), rfl, rfl, ?_⟩
  have g0 : (env.set 11 (some (.sh (.int (0 + (i : Int) * 1)))))[1]? = some (some (.sh (.int (m : Nat)))) := by rw [List.getElem?_set_ne (by decide)]; exact h1
  have g5 : (env.set 11 (some (SV.sh (.int (0 + (i : Int) * 1)))))[11]? = some (some (.sh (.int (0 + (i : Int) * 1)))) := List.getElem?_set_self (by omega)
  have e : 0 + (i : Int) * 1 = i := by omega
  rw [e] at g0 g5 ⊢
  have e3 : ¬ (i : Int) < 0 := by omega
  generalize env.set 11 (some (SV.sh (.int (i : Int)))) = E2 at *
  simp [op2, vVar, g0, g5, e3]
theorem bit_ones : ∀ i < 9, (bitL (5 * i)).sum = ((ones (5 * i) : Nat) : Int) := by decide +kernel
theorem p1_step (g1 g2 g3 g4 g5 g6 : List SV → R) (low : Int) (m n o : Nat) (P : List D) (z2 z3 z4 : Option SV) (hm : m ≤ 40) (h1 : g1 [.sh (.list ((kyL low 3 41 m).map .int))] = ok (.tuple [.list P, .int (n : Nat)])) (h2 : g2 [.sh (.list P)] = .val (.ow ((srt (kyL low 3 41 m)).map .int))) (hb : (bitL m).sum = ((o : Nat) : Int)) (hl : P.length = o) (hn : o + n = m) :
    p_l_piles_right_1 g1 g2 g3 g4 g5 g6 [some (.sh (.int low)), some (.sh (.int (m : Nat))), z2, z3, z4, none, none, none, none, none, none, none] = .nx [some (.sh (.int low)), some (.sh (.int (m : Nat))), some (.sh (.list P)), some (.sh (.int (n : Nat))), some (.sh (.int (o : Nat))), none, none, none, none, none, none, none] := by
  unfold p_l_piles_right_1
  have q0 := fun z2 z3 z4 => lc_ky low m [some (.sh (.int low)), some (.sh (.int (m : Nat))), z2, z3, z4, none, none, none, none, none, none, none] rfl rfl
  have q1 := fun z2 z3 z4 => lc_bit m [some (.sh (.int low)), some (.sh (.int (m : Nat))), z2, z3, z4, none, none, none, none, none, none, none] rfl rfl
  have rl := rngL m
  have rl6 := rngL 6
  have c1 : (-1000000 : Int) ≤ (m : Int) ∧ (m : Int) ≤ 1000000 := by omega
  have c2 : m ≤ 1000000 := by omega
  have io := intsOf_map (bitL m)
  have ik := intsOf_map (kyL low 3 41 m)
  have fe := fNe_ints (srt (kyL low 3 41 m)) (srt (kyL low 3 41 m))
  simp only [beq_self_eq_true, Bool.not_true] at fe
  have nn : (n : Int) = (m : Int) - (o : Int) := by omega
  generalize (bitL m).map PyData.int = BL at *
  generalize (kyL low 3 41 m).map PyData.int = KL at *
  generalize hSL : (srt (kyL low 3 41 m)).map PyData.int = SL at *
  generalize op2 fAdd (vVar 0) (op2 fMod (op2 fMul (vVar 9) (vC (.int 3))) (vC (.int 41))) = CC at *
  generalize op2 fAnd (op2 fShr (vVar 1) (vVar 11)) (vC (.int 1)) = CB at *
  generalize hr6 : rngD 0 1 6 = R6 at *
  generalize hrm : rngD 0 1 m = RM at *
  refine (seq_nx (e := [some (.sh (.int low)), some (.sh (.int (m : Nat))), some (.sh (.list P)), some (.sh (.int (n : Nat))), z4, none, none, none, none, none, none, none]) ?_).trans ?_
  · simp [c1, hrm, rl, c2, q0, h1]
  refine (seq_nx (e := [some (.sh (.int low)), some (.sh (.int (m : Nat))), some (.sh (.list P)), some (.sh (.int (n : Nat))), some (.sh (.int (o : Nat))), none, none, none, none, none, none, none]) ?_).trans ?_
  · simp [hr6, rl6, q1, io, hb]
  refine (seq_nx (if_no ?_)).trans ?_
  · simp [hl]
  refine (seq_nx (if_no ?_)).trans ?_
  · simp [nn]
  refine if_no ?_
  simp [h2, c1, hrm, rl, c2, q0, ik, hSL, fe]
theorem p1_loop (k : Nat) (hk : 60 ≤ k) (g3 g4 g5 g6 : List SV → R) (low : Int) : ∀ (d i : Nat) (z1 z2 z3 z4 : Option SV), i + d = 9 → ∃ y1 y2 y3 y4, forL (tgN 1) (p_l_piles_right_1 (m_pile_of k) (m_pile_keys k) g3 g4 g5 g6) ((List.range' i d).map fun (j : Nat) => .int (0 + (j : Int) * 5)) [some (.sh (.int low)), z1, z2, z3, z4, none, none, none, none, none, none, none] = .nx [some (.sh (.int low)), y1, y2, y3, y4, none, none, none, none, none, none, none]
  | 0, i, z1, z2, z3, z4, _ => ⟨z1, z2, z3, z4, rfl⟩
  | d + 1, i, z1, z2, z3, z4, h => by
    obtain ⟨ps, n, p1, p2, p3, p4⟩ := E_pile_of (kyL low 3 41 (5 * i)) k hk (by rw [kyL_len]; omega) fun j hj => E_check_keys _ j (by rw [kyL_len]; omega) (by omega)
    have pk := E_pile_keys ps k (by omega) p1
    rw [srt_congr p2] at pk
    have po := pile_ones p1
    rw [p2.length_eq, kyL_len] at po
    rw [kyL_len] at p3
    have st := p1_step (m_pile_of k) (m_pile_keys k) g3 g4 g5 g6 low (5 * i) n (ones (5 * i)) (ps.map Bn.d) z2 z3 z4 (by omega) p4 pk (bit_ones i (by omega)) (by rw [List.length_map, po]) (by omega)
    obtain ⟨y1, y2, y3, y4, ih⟩ := p1_loop k hk g3 g4 g5 g6 low d (i + 1) (some (.sh (.int ((5 * i : Nat) : Int)))) (some (.sh (.list (ps.map Bn.d)))) (some (.sh (.int (n : Nat)))) (some (.sh (.int ((ones (5 * i) : Nat) : Int)))) (by omega)
    refine ⟨y1, y2, y3, y4, ?_⟩
    rw [List.range'_succ, List.map_cons, ← ih]
    refine forL_go (env' := [some (.sh (.int low)), some (.sh (.int ((5 * i : Nat) : Int))), z2, z3, z4, none, none, none, none, none, none, none]) ?_ st
    rw [show (0 + (i : Int) * 5) = ((5 * i : Nat) : Int) by omega]
    rfl
theorem p2_loop (k : Nat) (hk : 60 ≤ k) (g1 g2 g3 g4 g6 : List SV → R) (low : Int) (a1 a3 a4 a5 a6 a7 a11 : Option SV) : ∀ (ks : List Int) (xs : List D) (P : List Bn) (acc : List Int) (z9 z10 : Option SV), xs.length = ks.length → acc.length + ks.length ≤ 1000 → PileOk P → srt (pks P) = ks →
    ∃ y9 y10, forL (tgN 9) (p_l_piles_right_2 g1 g2 g3 g4 (m_pile_take k) g6) xs [some (.sh (.int low)), a1, some (.sh (.list (P.map Bn.d))), a3, a4, a5, a6, a7, some (.ow (acc.map .int)), z9, z10, a11] = .nx [some (.sh (.int low)), a1, some (.sh (.list [])), a3, a4, a5, a6, a7, some (.ow ((acc ++ ks).map .int)), y9, y10, a11]
  | [], xs, P, acc, z9, z10, hx, _, hP, e3 => by
    obtain rfl := List.length_eq_zero_iff.mp hx
    have q3 : pks P = [] := by
      have := (srt_perm (pks P)).length_eq
      rw [e3] at this
      exact List.length_eq_zero_iff.mp this.symm
    have hP : P = [] := by
      have := pks_ge P
      rw [q3] at this
      exact List.length_eq_zero_iff.mp (Nat.le_zero.mp this)
    subst hP
    exact ⟨z9, z10, by simp⟩
  | x :: ks, [], P, acc, z9, z10, hx, _, _, _ => nomatch hx
  | x :: ks, d :: xs, P, acc, z9, z10, hx, hl, hP, e3 => by
    have hne : P ≠ [] := fun z => by subst z; simp [pks, srt] at e3
    obtain ⟨qs, x', p1, p2, p3, p4⟩ := E_pile_take P k hk hP hne
    have s3 : srt (pks P) = x' :: srt (pks qs) := by
      refine (srt_of (((srt_perm _).cons x').trans p2.symm) ?_).symm
      refine List.pairwise_cons.mpr ⟨fun y hy => ?_, srt_le _⟩
      exact p3 y (p2.mem_iff.mpr (List.mem_cons_of_mem _ ((srt_perm _).mem_iff.mp hy)))
    rw [e3] at s3
    obtain ⟨rfl, v3⟩ := List.cons.inj s3
    simp only [List.length_cons] at hl hx
    obtain ⟨y9, y10, ih⟩ := p2_loop k hk g1 g2 g3 g4 g6 low a1 a3 a4 a5 a6 a7 a11 ks xs qs (acc ++ [x]) (some (.sh d)) (some (.sh (.int x))) (by omega) (by rw [List.length_append]; simp; omega) p1 v3.symm
    refine ⟨y9, y10, ?_⟩
    rw [List.append_assoc, List.singleton_append] at ih
    rw [← ih]
    refine forL_go (env' := [some (.sh (.int low)), a1, some (.sh (.list (P.map Bn.d))), a3, a4, a5, a6, a7, some (.ow (acc.map .int)), some (.sh d), z10, a11]) rfl ?_
    have al : acc.length ≤ 1000000 := by omega
    generalize P.map Bn.d = PD at *
    generalize qs.map Bn.d = QD at *
    simp [p_l_piles_right_2, p4, al]
theorem iR3_41 : iR3 [.sh (.int 0), .sh (.int 41), .sh (.int 5)] = .val (rngD 0 5 9) := by simp only [iR3]; rw [if_pos (by decide +kernel)]; rfl
theorem pile_nil {rs : List Bn} (h : pks rs = []) : rs = [] := by
  have := pks_ge rs
  rw [h] at this
  exact List.length_eq_zero_iff.mp (Nat.le_zero.mp this)
theorem pright_body (g1 g2 g3 g4 g5 g6 : List SV → R) (low n3 n1 n0 : Int) (P3 P1 P32 cs : List D) (X X5 : D) (K32 : List Int) (y1 y2 y3 y4 y9 y10 : Option SV) (R9 R32 : List D) (hR : rngD 0 5 9 = R9) (hR2 : rngD 0 1 32 = R32)
    (l1 : forL (tgN 1) (p_l_piles_right_1 g1 g2 g3 g4 g5 g6) R9 [some (.sh (.int low)), none, none, none, none, none, none, none, none, none, none, none] = .nx [some (.sh (.int low)), y1, y2, y3, y4, none, none, none, none, none, none, none])
    (a3 : g1 [.sh (.list [.int low, .int (low + 1), .int (low + 2)])] = ok (.tuple [.list P3, .int n3])) (a1 : g1 [.sh (.list [.int (low + 1)])] = ok (.tuple [.list P1, .int n1])) (b1 : g3 [.sh (.list P3), .sh (.list P1)] = ok (.tuple [.list [.tuple [.int low, .list cs]], .int 2])) (hcs : cs.length = 2)
    (b2 : g4 [.sh (.list []), .sh (.int low)] = ok (.tuple [.list [.tuple [.int low, .list []]], .int 0])) (b3 : g4 [.sh (.list P3), .sh (.int (low + 9))] = ok (.tuple [X, .int 2])) (b4 : g3 [.sh (.list []), .sh (.list [])] = ok (.tuple [.list [], .int n0])) (b5 : g3 [.sh (.list P3), .sh (.list [])] = ok (.tuple [X5, .int 0])) (b6 : g1 [.sh (.list [])] = ok (.tuple [.list [], .int 0]))
    (k32 : kyL low 1 4 32 = K32) (a32 : g1 [.sh (.list (K32.map .int))] = ok (.tuple [.list P32, .int 31]))
    (l2 : forL (tgN 9) (p_l_piles_right_2 g1 g2 g3 g4 g5 g6) R32 [some (.sh (.int low)), y1, some (.sh (.list P32)), some (.sh (.int 2)), y4, some (.sh (.list P3)), some (.sh (.list P1)), some (.sh (.list [.tuple [.int low, .list cs]])), some (.ow []), none, none, none] = .nx [some (.sh (.int low)), y1, some (.sh (.list [])), some (.sh (.int 2)), y4, some (.sh (.list P3)), some (.sh (.list P1)), some (.sh (.list [.tuple [.int low, .list cs]])), some (.ow ((srt K32).map .int)), y9, y10, none])
    (h6 : g6 [.sh (.int low)] = rb true) : b_l_piles_right g1 g2 g3 g4 g5 g6 [some (.sh (.int low)), none, none, none, none, none, none, none, none, none, none, none] = .rt (.sh (.bool true)) := by
  have f2 : fNe (.tuple [.list [.tuple [.int low, .list []]], .int 0]) (.tuple [.list [.tuple [.int low, .list []]], .int 0]) = rb false := by
    unfold fNe
    simp [PyData.depth, PyData.depthAll, PyData.eqv, PyData.eqvAll]
  have f3 : fNe (.tuple [.list [], .int 0]) (.tuple [.list [], .int 0]) = rb false := by
    unfold fNe
    simp [PyData.depth, PyData.depthAll, PyData.eqv, PyData.eqvAll]
  have q1 := fun z1 z2 z3 z4 z5 z6 z7 z8 => lc_k4 low 32 [some (.sh (.int low)), z1, z2, z3, z4, z5, z6, z7, z8, none, none, none] rfl rfl
  have q2 := fun z1 z2 z3 z4 z5 z6 z7 z8 z10 => lc_k4 low 32 [some (.sh (.int low)), z1, z2, z3, z4, z5, z6, z7, z8, none, z10, none] rfl rfl
  have r32 := rngL 32
  rw [hR2] at q1 q2 r32
  rw [k32] at q1 q2
  have ik := intsOf_map K32
  have fe := fNe_ints (srt K32) (srt K32)
  simp only [beq_self_eq_true, Bool.not_true] at fe
  have r3 := iR3_41
  rw [hR] at r3
  unfold b_l_piles_right
  generalize p_l_piles_right_1 g1 g2 g3 g4 g5 g6 = PP1 at *
  generalize p_l_piles_right_2 g1 g2 g3 g4 g5 g6 = PP2 at *
  generalize hSL : (srt K32).map PyData.int = SL at *
  generalize K32.map PyData.int = KL at *
  generalize op2 fAdd (vVar 0) (op2 fMod (vVar 9) (vC (.int 4))) = CC at *
  refine (seq_nx (e := [some (.sh (.int low)), y1, y2, y3, y4, none, none, none, none, none, none, none]) ?_).trans ?_
  · refine (show _ = forL (tgN 1) PP1 R9 [some (.sh (.int low)), none, none, none, none, none, none, none, none, none, none, none] from ?_).trans l1
    simp [r3]
  refine (seq_nx (e := [some (.sh (.int low)), y1, y2, y3, y4, some (.sh (.list P3)), some (.sh (.list P1)), none, none, none, none, none]) ?_).trans ?_
  · simp [a3, a1]
  refine (seq_nx (e := [some (.sh (.int low)), y1, y2, some (.sh (.int 2)), y4, some (.sh (.list P3)), some (.sh (.list P1)), some (.sh (.list [.tuple [.int low, .list cs]])), none, none, none, none]) ?_).trans ?_
  · simp [b1]
  refine (seq_nx (if_no ?_)).trans ?_
  · simp
  refine (seq_nx (if_no ?_)).trans ?_
  · simp
  refine (seq_nx (if_no ?_)).trans ?_
  · simp
  refine (seq_nx (if_no ?_)).trans ?_
  · simp [hcs]
  refine (seq_nx (if_no ?_)).trans ?_
  · simp [b2, f2]
  refine (seq_nx (if_no ?_)).trans ?_
  · simp [b3]
  refine (seq_nx (if_no ?_)).trans ?_
  · simp [b4]
  refine (seq_nx (if_no ?_)).trans ?_
  · simp [b5]
  refine (seq_nx (if_no ?_)).trans ?_
  · simp [b6, f3]
  refine (seq_nx (e := [some (.sh (.int low)), y1, some (.sh (.list P32)), some (.sh (.int 2)), y4, some (.sh (.list P3)), some (.sh (.list P1)), some (.sh (.list [.tuple [.int low, .list cs]])), some (.ow []), none, none, none]) ?_).trans ?_
  · simp [hR2, r32, q1, a32]
  refine (seq_nx (e := [some (.sh (.int low)), y1, some (.sh (.list [])), some (.sh (.int 2)), y4, some (.sh (.list P3)), some (.sh (.list P1)), some (.sh (.list [.tuple [.int low, .list cs]])), some (.ow SL), y9, y10, none]) ?_).trans ?_
  · simp [hR2, l2]
  refine (seq_nx (e := [some (.sh (.int low)), y1, some (.sh (.list [])), some (.sh (.int 2)), y4, some (.sh (.list P3)), some (.sh (.list P1)), some (.sh (.list [.tuple [.int low, .list cs]])), some (.sh (.list SL)), y9, y10, none]) ?_).trans ?_
  · simp [hR2, r32, q2, ik, hSL, fe]
  · simp [h6]
theorem E_l_piles_right (k : Nat) (hk : 90 ≤ k) (low : Int) : m_l_piles_right k [.sh (.int low)] = rb true := by
  obtain ⟨k, rfl⟩ : ∃ j, k = j + 1 := ⟨k - 1, by omega⟩
  have ck : ∀ r : List Int, r.length ≤ 40 → ∀ j, 50 ≤ j → m_check_keys j [.sh (.list (r.map .int))] = .val (.sh .none) := fun r h j hj => E_check_keys r j h (by omega)
  have o4 : ones 4 = 1 := by decide +kernel
  have o1 : ones 1 = 1 := by decide +kernel
  have o3 : ones 3 = 2 := by decide +kernel
  have o32 : ones 32 = 1 := by decide +kernel
  obtain ⟨P3, n3, p1, p2, p3, p4⟩ := E_pile_of [low, low + 1, low + 2] k (by omega) (by simp) (ck _ (by simp))
  obtain ⟨P1, n1, q1, q2, q3, q4⟩ := E_pile_of [low + 1] k (by omega) (by simp) (ck _ (by simp))
  have l3 := pile_ones p1
  rw [p2.length_eq] at l3
  have l3 : P3.length = 2 := l3.symm.trans o3
  have l1 := pile_ones q1
  rw [q2.length_eq] at l1
  have l1 : P1.length = 1 := l1.symm.trans o1
  obtain ⟨rs, m, r1, r2, r3, r4⟩ := E_pile_join P3 P1 k (by omega) p1 q1 (by rw [p2.length_eq, q2.length_eq]; simp)
  have rp : (pks rs).Perm ([low, low + 1, low + 2] ++ [low + 1]) := r2.trans (List.Perm.append p2 q2)
  have lr := pile_ones r1
  rw [rp.length_eq] at lr
  have lr : rs.length = 1 := lr.symm.trans o4
  obtain ⟨b, rfl⟩ : ∃ b, rs = [b] := List.length_eq_one_iff.mp lr
  obtain ⟨bk, bo⟩ := r1.ok b (by simp)
  have kb : b.keys.Perm ([low, low + 1, low + 2] ++ [low + 1]) := by simpa [pks] using rp
  have bl := b.keys_len bk
  rw [kb.length_eq] at bl
  have b2 : b.ord = 2 := by
    have : b.ord = 0 ∨ b.ord = 1 ∨ b.ord = 2 ∨ b.ord = 3 ∨ b.ord = 4 ∨ b.ord = 5 := by omega
    rcases this with z | z | z | z | z | z <;> rw [z] at bl <;> simp at bl
    exact z
  have bkey : b.key = low := by
    have h1 : b.key ∈ b.keys := List.mem_cons_self
    have h2 := kb.mem_iff.mp h1
    have h3 : low ∈ b.keys := kb.mem_iff.mpr (by simp)
    have h4 : b.key ≤ low := by
      rcases List.mem_cons.mp h3 with z | z
      · omega
      · exact b.ks_ge bk low z
    simp at h2
    omega
  have hm : m = 2 := by omega
  subst hm
  have bd : b.d = .tuple [.int low, .list b.cs] := by rw [Bn.d, bkey]
  have r4 : m_pile_join k [.sh (.list (P3.map Bn.d)), .sh (.list (P1.map Bn.d))] = ok (.tuple [.list [.tuple [.int low, .list b.cs]], .int 2]) := r4.trans (by rw [List.map_singleton, bd]; rfl)
  have pn : PileOk ([] : List Bn) := ⟨fun t h => absurd h List.not_mem_nil, .nil, by simp [pks]⟩
  obtain ⟨s1, i1, t1, t2, t3, t4⟩ := E_pile_put [] low k (by omega) pn (by simp [pks])
  have ls := pile_ones t1
  rw [t2.length_eq] at ls
  have ls : s1.length = 1 := ls.symm.trans o1
  obtain ⟨c, rfl⟩ : ∃ c, s1 = [c] := List.length_eq_one_iff.mp ls
  have kc : c.keys.Perm [low] := by simpa [pks] using t2
  have hc : c = .leaf low := by
    have lc := kc.length_eq
    rw [c.keys_len (t1.ok c (by simp)).1] at lc
    cases c with
    | leaf x =>
      have := kc.mem_iff.mp (List.mem_cons_self (a := x) (l := []))
      simp at this
      rw [this]
    | link o t => simp [Bn.ord, Nat.pow_succ] at lc; omega
  subst hc
  have hi : i1 = 0 := by simp at t3; omega
  subst hi
  have t4 : m_pile_put k [.sh (.list []), .sh (.int low)] = ok (.tuple [.list [.tuple [.int low, .list []]], .int 0]) := t4
  obtain ⟨s2, i2, u1, u2, u3, u4⟩ := E_pile_put P3 (low + 9) k (by omega) p1 (by rw [p2.length_eq]; simp)
  have l2 := pile_ones u1
  rw [u2.length_eq, List.length_cons, p2.length_eq] at l2
  have l2 : s2.length = 1 := l2.symm.trans o4
  have hi2 : i2 = 2 := by omega
  subst hi2
  have u4 : m_pile_put k [.sh (.list (P3.map Bn.d)), .sh (.int (low + 9))] = ok (.tuple [.list (s2.map Bn.d), .int 2]) := u4
  obtain ⟨s3, i3, v1, v2, v3, v4⟩ := E_pile_join [] [] k (by omega) pn pn (by simp [pks])
  have : s3 = [] := pile_nil (by simpa [pks] using v2)
  subst this
  have v4 : m_pile_join k [.sh (.list []), .sh (.list [])] = ok (.tuple [.list [], .int (i3 : Nat)]) := v4
  obtain ⟨s4, i4, w1, w2, w3, w4⟩ := E_pile_join P3 [] k (by omega) p1 pn (by rw [p2.length_eq]; simp [pks])
  have l4 := pile_ones w1
  have wl : (pks s4).length = 3 := by rw [w2.length_eq, List.length_append, p2.length_eq]; simp [pks]
  rw [wl] at l4
  have hi4 : i4 = 0 := by simp at w3; omega
  subst hi4
  obtain ⟨P0, i0, x1, x2, x3, x4⟩ := E_pile_of [] k (by omega) (by simp) (ck _ (by simp))
  have : P0 = [] := pile_nil (by simpa using x2)
  subst this
  have hi0 : i0 = 0 := by simp at x3; omega
  subst hi0
  have x4 : m_pile_of k [.sh (.list [])] = ok (.tuple [.list [], .int 0]) := x4
  obtain ⟨P32, i32, z1, z2, z3, z4⟩ := E_pile_of (kyL low 1 4 32) k (by omega) (by rw [kyL_len]; omega) (ck _ (by rw [kyL_len]; omega))
  have l32 := pile_ones z1
  rw [z2.length_eq, kyL_len] at l32
  rw [kyL_len] at z3
  have hi32 : i32 = 31 := by omega
  subst hi32
  have z4 : m_pile_of k [.sh (.list ((kyL low 1 4 32).map .int))] = ok (.tuple [.list (P32.map Bn.d), .int 31]) := z4
  obtain ⟨y1, y2, y3, y4, lp1⟩ := p1_loop k (by omega) (m_pile_join k) (m_pile_put k) (m_pile_take k) (m_l_pile_refused_right k) low 9 0 none none none none rfl
  obtain ⟨y9, y10, lp2⟩ := p2_loop k (by omega) (m_pile_of k) (m_pile_keys k) (m_pile_join k) (m_pile_put k) (m_l_pile_refused_right k) low y1 (some (.sh (.int 2))) y4 (some (.sh (.list (P3.map Bn.d)))) (some (.sh (.list (P1.map Bn.d)))) (some (.sh (.list [.tuple [.int low, .list b.cs]]))) none (srt (kyL low 1 4 32)) (rngD 0 1 32) P32 [] none none (by rw [rngL, (srt_perm _).length_eq, kyL_len]) (by rw [(srt_perm _).length_eq, kyL_len]; simp) z1 (srt_congr z2)
  have e9 : ((List.range' 0 9).map fun (j : Nat) => PyData.int (0 + (j : Int) * 5)) = rngD 0 5 9 := by unfold rngD; rw [List.range_eq_range']
  rw [e9] at lp1
  rw [m_l_piles_right]
  exact run_rt 12 _ _ _ _ rfl (pright_body _ _ _ _ _ _ low _ _ _ _ _ _ b.cs _ _ (kyL low 1 4 32) y1 y2 y3 y4 y9 y10 _ _ rfl rfl lp1 p4 q4 r4 (by rw [Bn.cs_len, b2]) t4 u4 v4 w4 x4 rfl z4 lp2 (E_l_pile_refused_right k (by omega) low))
theorem lc_k7 (low : Int) (m : Nat) (env : VEnv) (l12 : env.length = 9) (h0 : env[0]? = some (some (.sh (.int low)))) : lcGo (tgN 4) (vC (.bool true)) (op2 fAdd (vVar 0) (op2 fMod (op2 fMul (vVar 4) (vC (.int 7))) (vC (.int 40)))) env (rngD 0 1 m) = some ((kyL low 7 40 m).map .int) := by
  unfold rngD kyL
  rw [List.map_map]
  refine lcGo_map _ _ _ fun i _ => ⟨env.set 4 (some (.sh (.int (0 + (i : Int) * 1)))), rfl, rfl, ?_⟩
  have g0 : (env.set 4 (some (.sh (.int (0 + (i : Int) * 1)))))[0]? = some (some (.sh (.int low))) := by rw [List.getElem?_set_ne (by decide)]; exact h0
  have g5 : (env.set 4 (some (SV.sh (.int (0 + (i : Int) * 1)))))[4]? = some (some (.sh (.int (0 + (i : Int) * 1)))) := List.getElem?_set_self (by omega)
  have e : 0 + (i : Int) * 1 = i := by omega
  rw [e] at g0 g5 ⊢
  have mo : mulOk (i : Int) 7 = true := mulOk_right (by decide) (by decide)
  generalize env.set 4 (some (SV.sh (.int (i : Int)))) = E2 at *
  simp [op2, vVar, g0, g5, mo]
theorem isn_t {f : FE} {env : VEnv} (h : f env = rb true) : op2 fIsn f (vC (.bool true)) env = rb false := by simp [h]
theorem h1_loop (k : Nat) (hk : 75 ≤ k) (hk2 : k ≤ 900) (g1 g3 g5 g6 g7 g8 g9 g10 g11 g12 : List SV → R) (g13 : (List SV → R) → List SV → R) (a0 a1 a6 a7 a8 : Option SV) : ∀ (ks : List Int) (xs : List D) (L : Tr) (acc : List Int) (z4 z5 : Option SV), xs.length = ks.length → acc.length + ks.length ≤ 1000 → L.size ≤ 40 → L.heap = true → L.leans = true → srt L.row = ks →
    ∃ y4 y5, forL (tgN 4) (p_l_heaps_right_k23_1 g1 (m_shows k) g3 (m_lean_take k) g5 g6 g7 g8 g9 g10 g11 g12 g13) xs [a0, a1, some (.sh L.d), some (.ow (acc.map .int)), z4, z5, a6, a7, a8] = .nx [a0, a1, some (.sh (.tuple [])), some (.ow ((acc ++ ks).map .int)), y4, y5, a6, a7, a8]
  | [], xs, L, acc, z4, z5, hx, _, _, _, _, e => by
    obtain rfl := List.length_eq_zero_iff.mp hx
    have q : L.row = [] := by
      have := (srt_perm L.row).length_eq
      rw [e] at this
      exact List.length_eq_zero_iff.mp this.symm
    have hL : L = .lf := by
      cases L with
      | lf => rfl
      | nd l x r => simp [Tr.row] at q
    subst hL
    exact ⟨z4, z5, by simp [Tr.d]⟩
  | x :: ks, [], _, _, _, _, hx, _, _, _, _, _ => nomatch hx
  | x :: ks, d :: xs, L, acc, z4, z5, hx, hl, sL, hL, lL, e => by
    cases L with
    | lf => simp [Tr.row, srt] at e
    | nd l y r =>
      have s1 := srt_heap hL
      rw [e] at s1
      obtain ⟨rfl, v1⟩ := List.cons.inj s1
      obtain ⟨_, _, q3, q4⟩ := nd_heap.mp hL
      obtain ⟨_, u2, u3⟩ := leans_nd.mp lL
      have t1 := E_lean_take _ k sL (by omega) (by omega) hL
      rw [if_pos lL] at t1
      simp only [takeL] at t1
      have z1 := joinL_size l r
      simp only [Tr.size] at sL
      have t4 := Leans_shows (joinL l r) k (by omega) (by omega)
      rw [joinL_leans u2 u3] at t4
      simp only [List.length_cons] at hl hx
      obtain ⟨y4, y5, ih⟩ := h1_loop k hk hk2 g1 g3 g5 g6 g7 g8 g9 g10 g11 g12 g13 a0 a1 a6 a7 a8 ks xs (joinL l r) (acc ++ [x]) (some (.sh d)) (some (.sh (.int x))) (by omega) (by rw [List.length_append]; simp; omega) (by omega) (joinL_heap q3 q4) (joinL_leans u2 u3) (by rw [srt_congr (joinL_row l r)]; exact v1.symm)
      refine ⟨y4, y5, ?_⟩
      rw [List.append_assoc, List.singleton_append] at ih
      rw [← ih]
      refine forL_go (env' := [a0, a1, some (.sh (Tr.nd l x r).d), some (.ow (acc.map .int)), some (.sh d), z5, a6, a7, a8]) rfl ?_
      have al : acc.length ≤ 1000000 := by omega
      have z0 : (RD.ins 0 []).fzv = some (.ob 0 []) := by simp [RD.fzv, RD.toDs]
      generalize (Tr.nd l x r).d = LD at *
      generalize (joinL l r).d = JD at *
      unfold p_l_heaps_right_k23_1
      refine (seq_nx (e := [a0, a1, some (.sh JD), some (.ow (acc.map .int)), some (.sh d), some (.sh (.int x)), a6, a7, a8]) ?_).trans ?_
      · simp [t1]
      refine (seq_nx (e := [a0, a1, some (.sh JD), some (.ow ((acc ++ [x]).map .int)), some (.sh d), some (.sh (.int x)), a6, a7, a8]) ?_).trans ?_
      · simp [al]
      refine if_no (isn_t ?_)
      simp [z0, t4]
theorem all_sh (ks : Nat) (hk : ks ≤ 40) : ∃ F : Nat → Tr, ∀ n, n < leastN ks 0 → (F n).size = ks ∧ (F n).leans = true ∧ zerK (F n) = F n ∧ numT (F n) 0 = n := by
  have : ∀ n, ∃ t : Tr, n < leastN ks 0 → t.size = ks ∧ t.leans = true ∧ zerK t = t ∧ numT t 0 = n := fun n => by
    by_cases c : n < leastN ks 0
    · obtain ⟨t, a, b, d, e⟩ := surj hk c
      exact ⟨t, fun _ => ⟨a, b, d, e⟩⟩
    · exact ⟨.lf, fun z => absurd z c⟩
  exact ⟨fun n => Classical.choose (this n), fun n => Classical.choose_spec (this n)⟩
theorem least_7 : leastN 7 0 ≤ 1000 ∧ 1 ≤ leastN 7 0 := by decide +kernel
theorem full_7 : numT (.nd (.nd (.nd .lf 0 .lf) 0 (.nd .lf 0 .lf)) 0 (.nd (.nd .lf 0 .lf) 0 (.nd .lf 0 .lf))) 0 + 1 = leastN 7 0 := by decide +kernel
theorem ranks_7 (k : Nat) (hk : 150 ≤ k) : ∃ L : List Int, L.Pairwise (· ≤ ·) ∧ L.length = leastN 7 0 ∧ atI (L.map PyData.int) (-1) = some (.int 3) ∧ ∀ env : VEnv, env.length = 9 → lcGo (tgN 4) (vC (.bool true)) (calF 1 (m_rank k) [calF 2 (m_shape_by k) [vC (.int 7), vVar 4]]) env (rngD 0 1 (leastN 7 0)) = some (L.map .int) := by
  obtain ⟨F, hF⟩ := all_sh 7 (by omega)
  obtain ⟨n1, n2⟩ := least_7
  refine ⟨(List.range (leastN 7 0)).map fun n => ((rkN (F n) : Nat) : Int), ?_, by simp, ?_, fun env l9 => ?_⟩
  · refine List.pairwise_map.mpr (List.Pairwise.imp_of_mem ?_ List.pairwise_lt_range)
    intro a b ma mb lt
    obtain ⟨a1, a2, a3, a4⟩ := hF a (List.mem_range.mp ma)
    obtain ⟨b1, b2, b3, b4⟩ := hF b (List.mem_range.mp mb)
    have := num_disj (t := F a) (u := F b) (r := 0) (by rw [a1, b1]) (by omega) a2 b2 (by omega) (by omega) (by omega)
    omega
  · obtain ⟨m, hm⟩ : ∃ m, leastN 7 0 = m + 1 := ⟨leastN 7 0 - 1, by omega⟩
    obtain ⟨a1, a2, a3, a4⟩ := hF m (by omega)
    have fu := full_7
    have ss := same_shape (t := F m) (u := .nd (.nd (.nd .lf 0 .lf) 0 (.nd .lf 0 .lf)) 0 (.nd (.nd .lf 0 .lf) 0 (.nd .lf 0 .lf))) (r := 0) (by rw [a1]; rfl) (by omega) a2 (by decide +kernel) (by omega) (by omega) (by omega)
    have rk : rkN (F m) = 3 := by
      have := congrArg rkN ss
      rw [zerK_rk, zerK_rk] at this
      exact this.trans (by decide +kernel)
    rw [hm, List.range_succ, List.map_append, List.map_append]
    simp only [List.map_cons, List.map_nil, rk]
    generalize List.map PyData.int _ = Q
    simp [atI, ixN]
    rw [if_pos (by omega)]
    have e : (-1 + ((Q.length : Int) + 1)).toNat = Q.length := by omega
    rw [e]
    simp
  · unfold rngD
    rw [List.map_map]
    refine lcGo_map _ _ _ fun i mi => ⟨env.set 4 (some (.sh (.int (0 + (i : Int) * 1)))), rfl, rfl, ?_⟩
    have g5 : (env.set 4 (some (SV.sh (.int (0 + (i : Int) * 1)))))[4]? = some (some (.sh (.int (0 + (i : Int) * 1)))) := List.getElem?_set_self (by omega)
    have e : 0 + (i : Int) * 1 = i := by omega
    rw [e] at g5 ⊢
    obtain ⟨a1, a2, a3, a4⟩ := hF i (List.mem_range.mp mi)
    have s1 := E_shape_by (F i) k (by omega) a2 hk
    rw [a3, a4, a1] at s1
    have h0 := zerK_heap (F i)
    rw [a3] at h0
    have s2 := E_rank (F i) k (by omega) (by omega) h0
    rw [rkN_eq] at s2
    have s1 : m_shape_by k [.sh (.int 7), .sh (.int (i : Nat))] = ok (F i).d := s1
    generalize env.set 4 (some (SV.sh (.int (i : Int)))) = E2 at *
    generalize (F i).d = FD at *
    simp [g5, s1, s2]
theorem hm6 : [leastN 0 0, leastN 1 0, leastN 2 0, leastN 3 0, leastN 4 0, leastN 5 0] = [1, 1, 1, 2, 4, 8] := by decide +kernel
theorem hright_body (g1 : List SV → R) (gs : Nat → List SV → R) (g3 g4 g5 g6 g7 g8 g9 g10 g11 g12 : List SV → R) (g13 : (List SV → R) → List SV → R) (low n40 : Int) (K RK SW : List Int) (L W S3 S40 O5 O2 OL : D) (N7 : Nat) (y4 y5 : Option SV) (R40 : List D) (hR : rngD 0 1 40 = R40) (hK : kyL low 7 40 40 = K)
    (a1 : g1 [.sh (.list (K.map .int))] = ok L) (s1 : gs 0 [.ob 0 [], .sh L] = rb true) (k1 : g3 [.sh L] = .val (.ow ((srt K).map .int))) (a0 : g1 [.sh (.list [])] = ok (.tuple []))
    (lp : forL (tgN 4) (p_l_heaps_right_k23_1 g1 gs g3 g4 g5 g6 g7 g8 g9 g10 g11 g12 g13) R40 [some (.sh (.int low)), some (.sh (.list (K.map .int))), some (.sh L), some (.ow []), none, none, none, none, none] = .nx [some (.sh (.int low)), some (.sh (.list (K.map .int))), some (.sh (.tuple [])), some (.ow ((srt K).map .int)), y4, y5, none, none, none])
    (a2 : g1 [.sh (.list ((K.take 20).map .int))] = ok W) (j2 : g5 [.sh W, .sh W] = ok S3) (k2 : g3 [.sh S3] = .val (.ow (SW.map .int))) (hSW : srt (K.take 20 ++ K.take 20) = SW) (lK : K.length = 40)
    (j0 : g5 [.sh (.tuple []), .sh (.tuple [])] = ok (.tuple [])) (m0 : g6 [.sh (.int 0)] = ri 1) (m1 : g6 [.sh (.int 1)] = ri 1) (m2 : g6 [.sh (.int 2)] = ri 1) (m3 : g6 [.sh (.int 3)] = ri 2) (m4 : g6 [.sh (.int 4)] = ri 4) (m5 : g6 [.sh (.int 5)] = ri 8)
    (o0 : g8 [.sh (.int 0)] = ok (one 0).d) (b0 : g7 [.sh (.int 3), .sh (.int 0)] = ok (Tr.nd (.nd (one 0) 0 .lf) 0 .lf).d) (b1 : g7 [.sh (.int 3), .sh (.int 1)] = ok (Tr.nd (one 0) 0 (one 0)).d)
    (o5 : g8 [.sh (.int (low + 5))] = ok O5) (o2 : g8 [.sh (.int (low + 2))] = ok O2) (u1 : g9 [.sh (.tuple [O5, .int low, O2])] = ri 1) (u0 : g9 [.sh (.tuple [])] = ri 0)
    (m40 : g6 [.sh (.int 40)] = ri n40) (b40 : g7 [.sh (.int 40), .sh (.int (n40 - 1))] = ok S40) (u40 : g9 [.sh S40] = ri (n40 - 1)) (m7 : g6 [.sh (.int 7)] = ri (N7 : Nat)) (h7 : N7 ≤ 1000) (pR : RK.Pairwise (· ≤ ·)) (aR : atI (RK.map PyData.int) (-1) = some (.int 3))
    (lcR : ∀ env : VEnv, env.length = 9 → lcGo (tgN 4) (vC (.bool true)) (calF 1 g10 [calF 2 g7 [vC (.int 7), vVar 4]]) env (rngD 0 1 N7) = some (RK.map .int))
    (ml : ∀ m x, m [.sh x] = .err "TooMany" → g13 m [.ob 104 [.int 0], .sh x] = ok (.str "many")) (oL : g11 [.sh (.int low)] = ok OL) (jL : g12 [.sh L, .sh OL] = .err "TooMany") :
    b_l_heaps_right_k23 g1 gs g3 g4 g5 g6 g7 g8 g9 g10 g11 g12 g13 [some (.sh (.int low)), none, none, none, none, none, none, none, none] = .rt (.sh (.bool true)) := by
  have z0 : (RD.ins 0 []).fzv = some (.ob 0 []) := by simp [RD.fzv, RD.toDs]
  have q1 := lc_k7 low 40 [some (.sh (.int low)), none, none, none, none, none, none, none, none] rfl rfl
  have r40 := rngL 40
  have r6 : rngD 0 1 6 = [.int 0, .int 1, .int 2, .int 3, .int 4, .int 5] := rfl
  have r2 : rngD 0 1 2 = [.int 0, .int 1] := rfl
  have r7 := rngL N7
  rw [hR] at q1 r40
  rw [hK] at q1
  have iK := intsOf_map K
  have iR := intsOf_map RK
  have sR : srt RK = RK := (srt_of (List.Perm.refl RK) pR).symm
  have tk : (K.map PyData.int).take 20 = (K.take 20).map .int := (List.map_take ..).symm
  have fm : fMul (.list ((K.take 20).map .int)) (.int 2) = .val (.ow ((K.take 20 ++ K.take 20).map .int)) := by
    have l20 : (K.take 20).length = 20 := by rw [List.length_take, lK]; rfl
    simp [fMul, lK, List.replicate]
  have i2 := intsOf_map (K.take 20 ++ K.take 20)
  have f1 := fNe_ints (srt K) (srt K)
  have f2 := fNe_ints SW SW
  have f3 := fNe_ints RK RK
  simp only [beq_self_eq_true, Bool.not_true] at f1 f2 f3
  have f4 : fNe (.list [.int 1, .int 1, .int 1, .int 2, .int 4, .int 8]) (.list [.int 1, .int 1, .int 1, .int 2, .int 4, .int 8]) = rb false := by
    have := fNe_ints [1, 1, 1, 2, 4, 8] [1, 1, 1, 2, 4, 8]
    simpa using this
  have f5 : fNe (.list [(Tr.nd (.nd (one 0) 0 .lf) 0 .lf).d, (Tr.nd (one 0) 0 (one 0)).d]) (.list [(Tr.nd (.nd (one 0) 0 .lf) 0 .lf).d, (Tr.nd (one 0) 0 (one 0)).d]) = rb false := by
    have e : PyData.eqv (.list [(Tr.nd (.nd (one 0) 0 .lf) 0 .lf).d, (Tr.nd (one 0) 0 (one 0)).d]) (.list [(Tr.nd (.nd (one 0) 0 .lf) 0 .lf).d, (Tr.nd (one 0) 0 (one 0)).d]) = true := by decide +kernel
    unfold fNe
    rw [if_pos (by decide +kernel), e]; rfl
  have d0 : (Tr.nd (.nd (one 0) 0 .lf) 0 .lf).d = .tuple [.tuple [(one 0).d, .int 0, .tuple []], .int 0, .tuple []] := rfl
  have d1 : (Tr.nd (one 0) 0 (one 0)).d = .tuple [(one 0).d, .int 0, (one 0).d] := rfl
  rw [d0] at f5 b0
  rw [d1] at f5 b1
  generalize (one 0).d = OO at *
  unfold b_l_heaps_right_k23
  generalize p_l_heaps_right_k23_1 g1 gs g3 g4 g5 g6 g7 g8 g9 g10 g11 g12 g13 = PP at *
  generalize op2 fAdd (vVar 0) (op2 fMod (op2 fMul (vVar 4) (vC (.int 7))) (vC (.int 40))) = CC at *
  generalize hCR : calF 1 g10 [calF 2 g7 [vC (.int 7), vVar 4]] = CR at *
  generalize hSK : (srt K).map PyData.int = SK at *
  generalize hk2 : (K.take 20).map PyData.int = K2 at *
  generalize (K.take 20 ++ K.take 20).map PyData.int = K22 at *
  generalize K.map PyData.int = KD at *
  generalize hSD : SW.map PyData.int = SWD at *
  generalize hrk : RK.map PyData.int = RKD at *
  have lk : ∀ env : VEnv, env.length = 9 → ∀ N, N = N7 → lcGo (tgN 4) (vC (.bool true)) CR env (rngD 0 1 N) = some RKD := fun env h N e => by rw [e]; exact lcR env h
  generalize hrn : rngD 0 1 N7 = R7 at *
  refine (seq_nx (e := [some (.sh (.int low)), some (.sh (.list KD)), none, none, none, none, none, none, none]) ?_).trans ?_
  · simp [hR, r40, q1]
  refine (seq_nx (e := [some (.sh (.int low)), some (.sh (.list KD)), some (.sh L), some (.ow []), none, none, none, none, none]) ?_).trans ?_
  · simp [a1]
  refine (seq_nx (if_no ?_)).trans ?_
  · simp [z0, s1, k1, iK, hSK, f1, a0]
  refine (seq_nx (e := [some (.sh (.int low)), some (.sh (.list KD)), some (.sh (.tuple [])), some (.ow SK), y4, y5, none, none, none]) ?_).trans ?_
  · simp [hR, lp]
  refine (seq_nx (e := [some (.sh (.int low)), some (.sh (.list KD)), some (.sh (.tuple [])), some (.ow SK), y4, y5, some (.sh S3), none, none]) ?_).trans ?_
  · simp [tk, a2, j2]
  refine (seq_nx (e := [some (.sh (.int low)), some (.sh (.list KD)), some (.sh (.tuple [])), some (.sh (.list SK)), y4, y5, some (.sh S3), none, none]) ?_).trans ?_
  · simp [iK, hSK, f1]
  refine (seq_nx (if_no ?_)).trans ?_
  · simp
  refine (seq_nx (if_no ?_)).trans ?_
  · simp [tk, k2, fm, i2, hSW, hSD, f2, -fMul]
  refine (seq_nx (if_no ?_)).trans ?_
  · simp [j0]
  refine (seq_nx (if_no ?_)).trans ?_
  · simp [r6, lcGo, m0, m1, m2, m3, m4, m5, f4]
  refine (seq_nx (e := [some (.sh (.int low)), some (.sh (.list KD)), some (.sh (.tuple [])), some (.ow [.tuple [.tuple [OO, .int 0, .tuple []], .int 0, .tuple []], .tuple [OO, .int 0, OO]]), y4, y5, some (.sh S3), none, none]) ?_).trans ?_
  · simp [r2, lcGo, b0, b1]
  refine (seq_nx (e := [some (.sh (.int low)), some (.sh (.list KD)), some (.sh (.tuple [])), some (.sh (.list [.tuple [.tuple [OO, .int 0, .tuple []], .int 0, .tuple []], .tuple [OO, .int 0, OO]])), y4, y5, some (.sh S3), none, none]) ?_).trans ?_
  · simp [o0, f5]
  refine (seq_nx (if_no ?_)).trans ?_
  · simp [o5, o2, u1]
  refine (seq_nx (if_no ?_)).trans ?_
  · simp [u0]
  refine (seq_nx (if_no ?_)).trans ?_
  · simp [m40, b40, u40]
  have c7 : N7 ≤ 1000000 := by omega
  have c8 : (-1000000 : Int) ≤ (N7 : Int) ∧ (N7 : Int) ≤ 1000000 := by omega
  refine (seq_nx (e := [some (.sh (.int low)), some (.sh (.list KD)), some (.sh (.tuple [])), some (.sh (.list [.tuple [.tuple [OO, .int 0, .tuple []], .int 0, .tuple []], .tuple [OO, .int 0, OO]])), y4, y5, some (.sh S3), some (.sh (.list RKD)), none]) ?_).trans ?_
  · simp [m7, c8, hrn, r7, c7, lcR]
  refine (seq_nx (if_no ?_)).trans ?_
  · simp [iR, sR, hrk, f3, aR]
  refine ret_of (eq_lit (calL_ok (cs := [.sh (.int low)]) (as := [.sh L]) (by simp [capS]) (by simp [a1]) rfl rfl (ml _ _ ?_)))
  simp [oL, jL, errOf]
theorem E_l_heaps_right_k23 (k : Nat) (hk : 170 ≤ k) (hk2 : k ≤ 850) (low : Int) : m_l_heaps_right_k23 k [.sh (.int low)] = rb true := by
  obtain ⟨k, rfl⟩ : ∃ j, k = j + 3 := ⟨k - 3, by omega⟩
  have lK := kyL_len low 7 40 40
  generalize hK : kyL low 7 40 40 = K at *
  have a1 := E_lean_of K (k + 2) (by omega) (by omega)
  have hh := leanOf_heap K
  have hl := leanOf_leans K
  have hz := leanOf_size (r := K) (by omega)
  have hr := leanOf_row (r := K) (by omega)
  have s1 := Leans_shows (leanOf K) (k + 2) (by omega) (by omega)
  rw [hl] at s1
  have k1 := E_keys_of (leanOf K) (k + 2) (by omega) (by omega) (by omega) hh
  rw [srt_congr hr] at k1
  have l20 : (K.take 20).length = 20 := by rw [List.length_take, lK]; rfl
  have a2 := E_lean_of (K.take 20) (k + 2) (by omega) (by omega)
  have wh := leanOf_heap (K.take 20)
  have wl := leanOf_leans (K.take 20)
  have wz := leanOf_size (r := K.take 20) (by omega)
  have wr := leanOf_row (r := K.take 20) (by omega)
  have j2 := E_lean_join (leanOf (K.take 20)) (leanOf (K.take 20)) (k + 2) (by omega) (by omega) (by omega) wh wh
  rw [wl] at j2
  simp only [Bool.and_self, if_true] at j2
  have jz := joinL_size (leanOf (K.take 20)) (leanOf (K.take 20))
  have k2 := E_keys_of (joinL (leanOf (K.take 20)) (leanOf (K.take 20))) (k + 2) (by omega) (by omega) (by omega) (joinL_heap wh wh)
  rw [srt_congr ((joinL_row _ _).trans (List.Perm.append wr wr))] at k2
  have j0 := E_lean_join .lf .lf (k + 2) (by simp [Tr.size]) (by omega) (by omega) rfl rfl
  have j0 : m_lean_join (k + 2) [.sh (.tuple []), .sh (.tuple [])] = ok (.tuple []) := j0.trans (by simp [Tr.leans, joinL, Tr.d])
  have hm := hm6
  simp only [List.cons.injEq, and_true] at hm
  obtain ⟨e0, e1, e2, e3, e4, e5⟩ := hm
  have m0 := E_how_many (k + 1) 0 (by omega) (by omega)
  have m1 := E_how_many (k + 1) 1 (by omega) (by omega)
  have m2 := E_how_many (k + 1) 2 (by omega) (by omega)
  have m3 := E_how_many (k + 1) 3 (by omega) (by omega)
  have m4 := E_how_many (k + 1) 4 (by omega) (by omega)
  have m5 := E_how_many (k + 1) 5 (by omega) (by omega)
  have m7 := E_how_many (k + 1) 7 (by omega) (by omega)
  have m40 := E_how_many (k + 1) 40 (by omega) (by omega)
  rw [e0] at m0
  rw [e1] at m1
  rw [e2] at m2
  rw [e3] at m3
  rw [e4] at m4
  rw [e5] at m5
  have b0 := E_shape_by (.nd (.nd (one 0) 0 .lf) 0 .lf) (k + 2) (by simp [Tr.size, one]) (by decide +kernel) (by omega)
  have n0 : numT (.nd (.nd (one 0) 0 .lf) 0 .lf) 0 = 0 := by decide +kernel
  rw [n0] at b0
  have b1 := E_shape_by (.nd (one 0) 0 (one 0)) (k + 2) (by simp [Tr.size, one]) (by decide +kernel) (by omega)
  have n1 : numT (.nd (one 0) 0 (one 0)) 0 = 1 := by decide +kernel
  rw [n1] at b1
  have u1 := E_number_of (.nd (one (low + 5)) low (one (low + 2))) (k + 2) (by simp [Tr.size, one]) (by simp [one, Tr.heap, geTop]; omega) (by simp [one, Tr.leans, Tr.rank]) (by omega) (by omega)
  have n2 : numT (.nd (one (low + 5)) low (one (low + 2))) 0 = 1 := (show numT (.nd (one (low + 5)) low (one (low + 2))) 0 = numT (.nd (one 0) 0 (one 0)) 0 from rfl).trans n1
  rw [n2] at u1
  have u0 := E_number_of .lf (k + 2) (by simp [Tr.size]) rfl rfl (by omega) (by omega)
  have n3 : numT .lf 0 = 0 := by decide +kernel
  rw [n3] at u0
  have p40 : 1 ≤ leastN 40 0 := by
    have := num_lt (t := (chL 0 40).lean) (r := 0) (by rw [lean_size, chL_size]; omega) (lean_leans _) (by omega)
    rw [lean_size, chL_size] at this
    omega
  obtain ⟨t, t1, t2, t3, t4⟩ := surj (ks := 40) (v := leastN 40 0 - 1) (by omega) (by omega)
  have b40 := E_shape_by t (k + 2) (by omega) t2 (by omega)
  rw [t3, t4, t1] at b40
  have th := zerK_heap t
  rw [t3] at th
  have u40 := E_number_of t (k + 2) (by omega) th t2 (by omega) (by omega)
  rw [t4] at u40
  have c40 : ((leastN 40 0 - 1 : Nat) : Int) = ((leastN 40 0 : Nat) : Int) - 1 := by omega
  rw [c40] at b40 u40
  obtain ⟨RK, pR, _, aR, lcR⟩ := ranks_7 (k + 2) (by omega)
  have jL := E_lean_join_many (leanOf K) (one low) k (by rw [hz, lK]; simp [one, Tr.size]) (by omega) (by simp [one, Tr.size]) (by omega) hh (by simp [one, Tr.heap, geTop])
  obtain ⟨y4, y5, lp⟩ := h1_loop (k + 2) (by omega) (by omega) (m_lean_of (k + 2)) (m_keys_of (k + 2)) (m_lean_join (k + 2)) (m_how_many (k + 2)) (m_shape_by (k + 2)) (m_l_leaf (k + 2)) (m_number_of (k + 2)) (m_rank (k + 2)) (m_l_leaf k) (m_lean_join k) (fun m1 => m_l_sort (fun _ => m1) (k + 2)) (some (.sh (.int low))) (some (.sh (.list (K.map .int)))) none none none (srt K) (rngD 0 1 40) (leanOf K) [] none none (by rw [rngL, (srt_perm _).length_eq, lK]) (by rw [(srt_perm _).length_eq, lK]; simp) (by omega) hh hl (srt_congr hr)
  have a0 := E_lean_of [] (k + 2) (by simp) (by omega)
  have a0 : m_lean_of (k + 2) [.sh (.list [])] = ok (.tuple []) := a0.trans (by simp [leanOf_nil, Tr.d])
  rw [m_l_heaps_right_k23]
  exact run_rt 9 _ _ _ _ rfl (hright_body _ _ _ _ _ _ _ _ _ _ _ _ _ low _ K RK _ _ _ _ _ _ _ _ (leastN 7 0) y4 y5 _ rfl hK a1 s1 k1 a0 lp a2 j2 k2 rfl lK j0 m0 m1 m2 m3 m4 m5 (e_leaf _ _ (by omega)) b0 b1 (e_leaf _ _ (by omega)) (e_leaf _ _ (by omega)) u1 u0 m40 b40 u40 m7 (by have := least_7.1; omega) pR aR lcR (fun m x h => e_sort_many m _ x (by omega) h) (e_leaf _ _ (by omega)) jL)
theorem k23_body (g1 g2 g3 g4 g5 : List SV → R) (ns : List Int) (low : Int) (hlow : low = if ns = [] then 0 else ns.headD 0 % 10 ^ 12) (h1 : g1 [.sh (.int low)] = rb true) (h2 : g2 [.sh (.int low)] = rb true) (h3 : g3 [.sh (.int low)] = rb true) (h4 : g4 [.sh (.int low)] = rb true) (h5 : g5 [.sh (.int low)] = rb true) : b_law_k23 g1 g2 g3 g4 g5 [some (.sh (.list (ns.map .int))), none] = .rt (.sh (.bool true)) := by
  unfold b_law_k23
  refine (seq_nx (e := [some (.sh (.list (ns.map .int))), some (.sh (.int low))]) ?_).trans ?_
  · cases ns with
    | nil => subst hlow; simp
    | cons x r =>
      subst hlow
      have e1 : fNe (.list ((x :: r).map .int)) (.list []) = rb true := by
        have := fNe_ints (x :: r) []
        simpa using this
      simp only [List.map_cons] at e1
      generalize r.map PyData.int = RI at *
      simp [e1]
  refine (seq_nx (if_no ?_)).trans ?_
  · simp [h1, h2, h3]
  · simp [h4, h5]
theorem law_main_k23 (ns : List Int) (hl : ns.length ≤ 63) (hb : ∀ z ∈ ns, bits z ≤ 1048576) : m_law_k23 201 [.sh (.list (ns.map .int))] = .val (.sh (.bool true)) := by
  rw [m_law_k23]
  exact run_rt 2 _ _ _ _ rfl (k23_body _ _ _ _ _ ns _ rfl (E_l_rows_right_k23 200 (by omega) (by omega) _) (E_l_leaned_right_k23 200 (by omega) (by omega) _) (E_l_heaps_right_k23 200 (by omega) (by omega) _) (E_l_turns_right 200 (by omega) _) (E_l_piles_right 200 (by omega) _))
def top (i : Nat) : Stmt := PySem.Challenge.pw_heapmeld_k23_promises_by_hand.main.body.getD i (.Pass ⟨0, 0, 0, 0⟩)
structure Top (K : PySem.W.Frag) (mg : Str → Option Value) (T : Ct) : Prop where
  d_rank_of : Df K mg "rank_of" "rank_of" (top 2) ["heap"]
  d_knot_at : Df K mg "knot_at" "knot_at" (top 3) ["heap", "way"]
  d_slants : Df K mg "slants" "slants" (top 4) ["knot"]
  d_slanting : Df K mg "slanting" "slanting" (top 5) ["heap", "way"]
  d_exchanged : Df K mg "exchanged" "exchanged" (top 6) ["heap", "way", "ways"]
  d_Leans_shows : Dm K T 0 "shows" "Leans.shows" (inClass (top 7) 0) ["self", "heap"]
  d_Slants_shows : Dm K T 1 "shows" "Slants.shows" (inClass (top 8) 1) ["self", "heap"]
  d_Leaned_shows : Dm K T 2 "shows" "Leaned.shows" (inClass (top 9) 1) ["self", "heap"]
  d_is_key : Df K mg "is_key" "is_key" (top 23) ["thing"]
  d_is_form : Df K mg "is_form" "is_form" (top 24) ["thing"]
  d_is_ordered : Df K mg "is_ordered" "is_ordered" (top 25) ["heap"]
  d_check_heap : Df K mg "check_heap" "check_heap" (top 26) ["heap"]
  d_check_key : Df K mg "check_key" "check_key" (top 27) ["key"]
  d_check_keys : Df K mg "check_keys" "check_keys" (top 28) ["keys"]
  d_row_from : Df K mg "row_from" "row_from" (top 29) ["heap"]
  d_size_of : Df K mg "size_of" "size_of" (top 30) ["heap"]
  d_keys_of : Df K mg "keys_of" "keys_of" (top 31) ["heap"]
  d_check_both : Df K mg "check_both" "check_both" (top 32) ["one", "other"]
  d_check_leaning : Df K mg "check_leaning" "check_leaning" (top 34) ["heap"]
  d_rank : Df K mg "rank" "rank" (top 35) ["heap"]
  d_judged : Df K mg "judged" "judged" (top 36) ["heap"]
  d_leaning_knot : Df K mg "leaning_knot" "leaning_knot" (top 37) ["left", "key", "right"]
  d_joinL : Df K mg "joined_of_leaning" "joined_of" (top 38) ["one", "other"]
  d_lean_join : Df K mg "lean_join" "lean_join" (top 40) ["one", "other"]
  d_lean_take : Df K mg "lean_take" "lean_take" (top 41) ["heap"]
  d_lean_of : Df K mg "lean_of" "lean_of" (top 42) ["keys"]
  d_leaned : Df K mg "leaned" "leaned" (top 43) ["heap"]
  d_check_count : Df K mg "check_count" "check_count" (top 45) ["keys"]
  d_many_of : Df K mg "many_of" "many_of" (top 46) ["keys", "rank", "known"]
  d_at_least : Df K mg "at_least" "at_least" (top 47) ["keys", "rank", "known"]
  d_parted : Df K mg "parted" "parted" (top 48) ["keys", "rank", "known"]
  d_how_many : Df K mg "how_many" "how_many" (top 49) ["keys"]
  d_shape_from : Df K mg "shape_from" "shape_from" (top 50) ["keys", "rank", "number", "known"]
  d_shape_by : Df K mg "shape_by" "shape_by" (top 51) ["keys", "number"]
  d_number_in : Df K mg "number_in" "number_in" (top 52) ["heap", "rank", "known"]
  d_number_of : Df K mg "number_of" "number_of" (top 53) ["heap"]
  d_order_of : Df K mg "order_of" "order_of" (top 55) ["tree"]
  d_is_tree : Df K mg "is_tree" "is_tree" (top 56) ["thing", "order"]
  d_is_pile : Df K mg "is_pile" "is_pile" (top 57) ["thing"]
  d_check_pile : Df K mg "check_pile" "check_pile" (top 58) ["pile"]
  d_count_of : Df K mg "count_of" "count_of" (top 59) ["pile"]
  d_copied : Df K mg "copied" "copied" (top 60) ["tree"]
  d_linked : Df K mg "linked" "linked" (top 61) ["one", "other"]
  d_joinP : Df K mg "joined_of_piles" "joined_of" (top 62) ["one", "other"]
  d_keys_in : Df K mg "keys_in" "keys_in" (top 64) ["tree"]
  d_pile_keys : Df K mg "pile_keys" "pile_keys" (top 65) ["pile"]
  d_pile_join : Df K mg "pile_join" "pile_join" (top 66) ["one", "other"]
  d_pile_put : Df K mg "pile_put" "pile_put" (top 67) ["pile", "key"]
  d_pile_take : Df K mg "pile_take" "pile_take" (top 68) ["pile"]
  d_pile_of : Df K mg "pile_of" "pile_of" (top 69) ["keys"]
  d_heap_from : Df K mg "heap_from" "heap_from" (top 71) ["row"]
  d_heap_of : Df K mg "heap_of" "heap_of" (top 72) ["row"]
  d_row_of : Df K mg "row_of" "row_of" (top 73) ["heap"]
  d_sizes_of : Df K mg "sizes_of" "sizes_of" (top 74) ["shape"]
  d_how_many_rows : Df K mg "how_many_rows" "how_many_rows" (top 75) ["shape"]
  d_joinT : Df K mg "joined_of_turning" "joined_of" (top 77) ["one", "other"]
  d_turn_join : Df K mg "turn_join" "turn_join" (top 79) ["one", "other"]
  d_turn_take : Df K mg "turn_take" "turn_take" (top 80) ["heap"]
  d_purse_of : Df K mg "purse_of" "purse_of" (top 81) ["heap"]
  d_purse : Df K mg "purse" "purse" (top 82) ["heap"]
  d_l_leaf : Df K mg "_law_leaf" "_law_leaf" (top 84) ["_law_key"]
  d_l_sort : Df K mg "_law_sort" "_law_sort" (top 85) ["_law_ask", "_law_thing"]
  d_l_rows_right_k23 : Df K mg "_law_rows_right" "_law_rows_right" (top 86) ["_law_low"]
  d_l_leaned_right_k23 : Df K mg "_law_leaned_right" "_law_leaned_right" (top 87) ["_law_low"]
  d_l_inner_right : Df K mg "_law_inner_right" "_law_inner_right" (top 88) ["_law_low"]
  d_l_heaps_right_k23 : Df K mg "_law_heaps_right" "_law_heaps_right" (top 89) ["_law_low"]
  d_l_turns_right : Df K mg "_law_turns_right" "_law_turns_right" (top 90) ["_law_low"]
  d_l_piles_right : Df K mg "_law_piles_right" "_law_piles_right" (top 91) ["_law_low"]
  d_l_pile_refused_right : Df K mg "_law_pile_refused_right" "_law_pile_refused_right" (top 92) ["_law_low"]
  d_law_k23 : Df K mg "law" "law" (top 93) ["_law_script"]
  b_min : mg "min" = none
  c_Slants : Oc K mg T "Slants" 1
  c_Leaned : Oc K mg T "Leaned" 2
  b_zip : mg "zip" = none
  b_any : mg "any" = none
  b_all : mg "all" = none
  b_isinstance : mg "isinstance" = none
  b_int : mg "int" = none
  b_bool : mg "bool" = none
  b_tuple : mg "tuple" = none
  b_len : mg "len" = none
  k_MOST : ∃ tk, mg "MOST" = some (.int 40 tk)
  e_BadHeap : Er K mg T "BadHeap"
  e_BadKey : Er K mg T "BadKey"
  b_list : mg "list" = none
  b_sorted : mg "sorted" = none
  e_TooMany : Er K mg T "TooMany"
  e_NotLeaning : Er K mg T "NotLeaning"
  z_Leans : PySem.W.findIn K (.ref (T.ad 0)) "__init__" = some (some (.builtin "object.__init__"))
  c_Leans : Oc K mg T "Leans" 0
  e_Empty : Er K mg T "Empty"
  e_BadCount : Er K mg T "BadCount"
  b_range : mg "range" = none
  b_sum : mg "sum" = none
  e_BadNumber : Er K mg T "BadNumber"
  b_enumerate : mg "enumerate" = none
  e_BadPile : Er K mg T "BadPile"
  b_max : mg "max" = none
  b_set : mg "set" = none
  e_BadShape : Er K mg T "BadShape"
  x_l_sort : ∀ c ∈ (["BadHeap", "BadPile", "TooMany"] : List Str), Xc K mg T "HeapError" ["BadHeap", "BadPile", "TooMany"] c
  i_Slants : OkI K mg T "Slants" (fun c => c == 1)
  i_Leans : OkI K mg T "Leans" (fun c => c == 0)
  n_Slants : Di K T 1 "Slants.__init__" (inClass (top 8) 0) ["self", "way"]
  n_Leaned : Di K T 2 "Leaned.__init__" (inClass (top 9) 0) ["self", "heap", "ways"]
theorem Top.cal {K : PySem.W.Frag} {mg : Str → Option Value} {T : Ct} (t : Top K mg T) (f : Nat → Addr) (l : List Addr) (G : Hp) : Top K mg { T with fv := f, tb := l, gc := G } :=
  ⟨t.d_rank_of, t.d_knot_at, t.d_slants, t.d_slanting, t.d_exchanged, t.d_Leans_shows, t.d_Slants_shows, t.d_Leaned_shows, t.d_is_key, t.d_is_form, t.d_is_ordered, t.d_check_heap, t.d_check_key, t.d_check_keys, t.d_row_from, t.d_size_of, t.d_keys_of, t.d_check_both, t.d_check_leaning, t.d_rank, t.d_judged, t.d_leaning_knot, t.d_joinL, t.d_lean_join, t.d_lean_take, t.d_lean_of, t.d_leaned, t.d_check_count, t.d_many_of, t.d_at_least, t.d_parted, t.d_how_many, t.d_shape_from, t.d_shape_by, t.d_number_in, t.d_number_of, t.d_order_of, t.d_is_tree, t.d_is_pile, t.d_check_pile, t.d_count_of, t.d_copied, t.d_linked, t.d_joinP, t.d_keys_in, t.d_pile_keys, t.d_pile_join, t.d_pile_put, t.d_pile_take, t.d_pile_of, t.d_heap_from, t.d_heap_of, t.d_row_of, t.d_sizes_of, t.d_how_many_rows, t.d_joinT, t.d_turn_join, t.d_turn_take, t.d_purse_of, t.d_purse, t.d_l_leaf, t.d_l_sort, t.d_l_rows_right_k23, t.d_l_leaned_right_k23, t.d_l_inner_right, t.d_l_heaps_right_k23, t.d_l_turns_right, t.d_l_piles_right, t.d_l_pile_refused_right, t.d_law_k23, t.b_min, t.c_Slants.cal f l G, t.c_Leaned.cal f l G, t.b_zip, t.b_any, t.b_all, t.b_isinstance, t.b_int, t.b_bool, t.b_tuple, t.b_len, t.k_MOST, ⟨t.e_BadHeap.ex⟩, ⟨t.e_BadKey.ex⟩, t.b_list, t.b_sorted, ⟨t.e_TooMany.ex⟩, ⟨t.e_NotLeaning.ex⟩, t.z_Leans, t.c_Leans.cal f l G, ⟨t.e_Empty.ex⟩, ⟨t.e_BadCount.ex⟩, t.b_range, t.b_sum, ⟨t.e_BadNumber.ex⟩, t.b_enumerate, ⟨t.e_BadPile.ex⟩, t.b_max, t.b_set, ⟨t.e_BadShape.ex⟩, fun c h => ⟨(t.x_l_sort c h).ex, (t.x_l_sort c h).ct, (t.x_l_sort c h).is⟩, t.i_Slants.cal f l G, t.i_Leans.cal f l G, t.n_Slants, t.n_Leaned⟩
structure TopM (K : PySem.W.Frag) (mg : Str → Option Value) (base : Heap) (T : Ct) : Prop where
  mt_l_heaps_right_k23 : MkT K mg base T "_law_heaps_right"
  mt_l_pile_refused_right : MkT K mg base T "_law_pile_refused_right"
theorem Top.tab {K : PySem.W.Frag} {mg : Str → Option Value} {T : Ct} (t : Top K mg T) (a : Addr) : Top K mg { T with me := some a } :=
  ⟨t.d_rank_of, t.d_knot_at, t.d_slants, t.d_slanting, t.d_exchanged, t.d_Leans_shows, t.d_Slants_shows, t.d_Leaned_shows, t.d_is_key, t.d_is_form, t.d_is_ordered, t.d_check_heap, t.d_check_key, t.d_check_keys, t.d_row_from, t.d_size_of, t.d_keys_of, t.d_check_both, t.d_check_leaning, t.d_rank, t.d_judged, t.d_leaning_knot, t.d_joinL, t.d_lean_join, t.d_lean_take, t.d_lean_of, t.d_leaned, t.d_check_count, t.d_many_of, t.d_at_least, t.d_parted, t.d_how_many, t.d_shape_from, t.d_shape_by, t.d_number_in, t.d_number_of, t.d_order_of, t.d_is_tree, t.d_is_pile, t.d_check_pile, t.d_count_of, t.d_copied, t.d_linked, t.d_joinP, t.d_keys_in, t.d_pile_keys, t.d_pile_join, t.d_pile_put, t.d_pile_take, t.d_pile_of, t.d_heap_from, t.d_heap_of, t.d_row_of, t.d_sizes_of, t.d_how_many_rows, t.d_joinT, t.d_turn_join, t.d_turn_take, t.d_purse_of, t.d_purse, t.d_l_leaf, t.d_l_sort, t.d_l_rows_right_k23, t.d_l_leaned_right_k23, t.d_l_inner_right, t.d_l_heaps_right_k23, t.d_l_turns_right, t.d_l_piles_right, t.d_l_pile_refused_right, t.d_law_k23, t.b_min, t.c_Slants.tab a, t.c_Leaned.tab a, t.b_zip, t.b_any, t.b_all, t.b_isinstance, t.b_int, t.b_bool, t.b_tuple, t.b_len, t.k_MOST, ⟨t.e_BadHeap.ex⟩, ⟨t.e_BadKey.ex⟩, t.b_list, t.b_sorted, ⟨t.e_TooMany.ex⟩, ⟨t.e_NotLeaning.ex⟩, t.z_Leans, t.c_Leans.tab a, ⟨t.e_Empty.ex⟩, ⟨t.e_BadCount.ex⟩, t.b_range, t.b_sum, ⟨t.e_BadNumber.ex⟩, t.b_enumerate, ⟨t.e_BadPile.ex⟩, t.b_max, t.b_set, ⟨t.e_BadShape.ex⟩, fun c h => ⟨(t.x_l_sort c h).ex, (t.x_l_sort c h).ct, (t.x_l_sort c h).is⟩, t.i_Slants.tab a, t.i_Leans.tab a, t.n_Slants.tab a, t.n_Leaned.tab a⟩
section
variable {P : Program} {w : World} {K : PySem.W.Frag} {mg : Str → Option Value} {base : Heap} {T : Ct}
abbrev s_Slants_init : Stmt := inClass (top 8) 0
theorem sc_Slants_init : FnScope ["self", "way"] ["self", "way"] (defScope s_Slants_init) := ⟨rfl, rfl, rfl, by decide +kernel, rfl, by decide +kernel, by decide +kernel⟩
theorem fi_Slants (t : Top K mg T) : FnI P w K mg base T 1 mk1 := by
  obtain ⟨f, fd, F, M, hb⟩ := t.n_Slants
  exact ⟨f, fd, _, M, gd_mk (k := 0) F sc_Slants_init (spN_len (by rw [t.c_Slants.fl]; rfl)) (fun cdv A outer s0 H vs Q E hq hr hsp => ⟨_, pss_one (ps_fld (pe_var (i := 0) rfl (Or.inl rfl)) (pe_callTy call_list_of rfl t.b_list (by decide +kernel) (pa_cons (pe_var (i := 1) rfl (Or.inl rfl)) pa_nil rfl)) rfl), init1_rd t.c_Slants hsp⟩), hb⟩
theorem all_Slants (t : Top K mg T) (k : Nat) : FnN P w K mg base T k 1 (m_Slants k) := fnN_of (fi_Slants t) k
abbrev s_Leaned_init : Stmt := inClass (top 9) 0
theorem sc_Leaned_init : FnScope ["self", "heap", "ways", "way"] ["self", "heap", "ways"] (defScope s_Leaned_init) := ⟨rfl, rfl, rfl, by decide +kernel, rfl, by decide +kernel, by decide +kernel⟩
theorem fi_Leaned (t : Top K mg T) : FnI P w K mg base T 2 mk2 := by
  obtain ⟨f, fd, F, M, hb⟩ := t.n_Leaned
  exact ⟨f, fd, _, M, gd_mk (k := 0) F sc_Leaned_init (spN_len (by rw [t.c_Leaned.fl]; rfl)) (fun cdv A outer s0 H vs Q E hq hr hsp => ⟨_, pss_cons (ps_fld (pe_var (i := 0) rfl (Or.inl rfl)) (pe_var (i := 1) rfl (Or.inl rfl)) rfl) (pss_one (ps_fld (pe_var (i := 0) rfl (Or.inl rfl))
    (pe_lc (own := [("way", 3)]) rfl sc_Leaned_init.nd (pi_list (pe_var (i := 2) rfl (Or.inl rfl))) (blkOk_by (N := ["self", "heap", "ways", "way"]) (sc := defScope s_Leaned_init) (by decide +kernel)) (fun _ _ _ _ _ => pg_name (i := 3) sc_Leaned_init.nd rfl (by first | exact Or.inl rfl | exact Or.inr rfl)) (fun _ _ _ _ _ => pts_nil)
      (fun _ _ _ _ _ => pe_callTy call_list_of rfl t.b_list (by decide +kernel) (pa_cons (pe_var (i := 3) rfl (Or.inl rfl)) pa_nil rfl))) rfl)), init2_rd t.c_Leaned hsp⟩), hb⟩
theorem all_Leaned (t : Top K mg T) (k : Nat) : FnN P w K mg base T k 2 (m_Leaned k) := fnN_of (fi_Leaned t) k
abbrev s_rank_of : Stmt := top 2
abbrev N_rank_of : List Str := ["heap"]
theorem sc_rank_of : FnScope N_rank_of ["heap"] (defScope s_rank_of) := ⟨rfl, rfl, rfl, by decide +kernel, rfl, by decide +kernel, by decide +kernel⟩
theorem bd_rank_of {k : Nat} {c_rank_of : List SV → R} (t : Top K mg T) (h_rank_of : Fn P w K mg base T k "rank_of" 1 c_rank_of) : Bd P w K mg base T k N_rank_of "rank_of" s_rank_of (b_rank_of c_rank_of) := by
  intro f cdv A outer s0 H E B hr C po tk
  unfold b_rank_of
  exact vss_one (vs_ret (ve_if (vt_cm (c_eq C) (ve_var 0) (ve_tup (va_nil))) (ve_int) (ve_add (ve_int) (ve_min2 C ⟨rfl, t.b_min⟩ (ve_callF h_rank_of hr rfl C (va_cons (ve_ix (ve_var 0) (ve_int)) (va_nil))) (ve_callF h_rank_of hr rfl C (va_cons (ve_ix (ve_var 0) (ve_int)) (va_nil)))))))
theorem all_rank_of (t : Top K mg T) : ∀ k, Fn P w K mg base T k "rank_of" 1 (m_rank_of k)
  | 0 => fn_zero t.d_rank_of rfl
  | k + 1 => fn_mk t.d_rank_of sc_rank_of (bd_rank_of t (all_rank_of t k))
abbrev s_knot_at : Stmt := top 3
abbrev N_knot_at : List Str := ["heap", "way", "side"]
theorem sc_knot_at : FnScope N_knot_at ["heap", "way"] (defScope s_knot_at) := ⟨rfl, rfl, rfl, by decide +kernel, rfl, by decide +kernel, by decide +kernel⟩
theorem bd_knot_at {k : Nat} (t : Top K mg T) : Bd P w K mg base T k N_knot_at "knot_at" s_knot_at (b_knot_at) := by
  intro f cdv A outer s0 H E B hr C po tk
  unfold b_knot_at p_knot_at_1
  exact vss_cons (vs_for C po (vi_list (ve_var 1)) tr_name (pg_name (i := 2) C.nd rfl (by first | exact Or.inl rfl | exact Or.inr rfl)) (vss_cons (vs_if (vt_w (vw_or (vt_cm (c_eq C) (ve_var 0) (ve_tup (va_nil))) (vw_or1 (vt_cm (c_nin C) (ve_var 2) (ve_tup (va_cons (ve_str) (va_cons (ve_str) (va_nil)))))))) (vss_one (vs_ret (ve_tup (va_nil)))) (vss_nil)) (vss_one (vs_set 0 C (ve_if (vt_cm (c_eq C) (ve_var 2) (ve_str)) (ve_ix (ve_var 0) (ve_int)) (ve_ix (ve_var 0) (ve_int))))))) (vss_one (vs_ret (ve_var 0)))
theorem all_knot_at (t : Top K mg T) : ∀ k, Fn P w K mg base T k "knot_at" 2 (m_knot_at k)
  | 0 => fn_zero t.d_knot_at rfl
  | k + 1 => fn_mk t.d_knot_at sc_knot_at (bd_knot_at t)
abbrev s_slants : Stmt := top 4
abbrev N_slants : List Str := ["knot"]
theorem sc_slants : FnScope N_slants ["knot"] (defScope s_slants) := ⟨rfl, rfl, rfl, by decide +kernel, rfl, by decide +kernel, by decide +kernel⟩
theorem bd_slants {k : Nat} {c_rank_of : List SV → R} (t : Top K mg T) (h_rank_of : Fn P w K mg base T k "rank_of" 1 c_rank_of) : Bd P w K mg base T k N_slants "slants" s_slants (b_slants c_rank_of) := by
  intro f cdv A outer s0 H E B hr C po tk
  unfold b_slants
  exact vss_one (vs_ret (ve_and (ve_cm (c_ne C) (ve_var 0) (ve_tup (va_nil))) (ve_one (ve_cm c_gt (ve_callF h_rank_of hr rfl C (va_cons (ve_ix (ve_var 0) (ve_int)) (va_nil))) (ve_callF h_rank_of hr rfl C (va_cons (ve_ix (ve_var 0) (ve_int)) (va_nil)))))))
theorem all_slants (t : Top K mg T) : ∀ k, Fn P w K mg base T k "slants" 1 (m_slants k)
  | 0 => fn_zero t.d_slants rfl
  | k + 1 => fn_mk t.d_slants sc_slants (bd_slants t (all_rank_of t k))
abbrev s_slanting : Stmt := top 5
abbrev N_slanting : List Str := ["heap", "way", "found"]
theorem sc_slanting : FnScope N_slanting ["heap", "way"] (defScope s_slanting) := ⟨rfl, rfl, rfl, by decide +kernel, rfl, by decide +kernel, by decide +kernel⟩
theorem bd_slanting {k : Nat} {c_slants : List SV → R} {c_slanting : List SV → R} (t : Top K mg T) (h_slants : Fn P w K mg base T k "slants" 1 c_slants) (h_slanting : Fn P w K mg base T k "slanting" 2 c_slanting) : Bd P w K mg base T k N_slanting "slanting" s_slanting (b_slanting c_slants c_slanting) := by
  intro f cdv A outer s0 H E B hr C po tk
  unfold b_slanting
  exact vss_cons (vs_if (vt_cm (c_eq C) (ve_var 0) (ve_tup (va_nil))) (vss_one (vs_ret (ve_lst (va_nil)))) (vss_nil)) (vss_cons (vs_set 2 C (ve_if (vt_val (ve_callF h_slants hr rfl C (va_cons (ve_var 0) (va_nil)))) (ve_lst (va_cons (ve_var 1) (va_nil))) (ve_lst (va_nil)))) (vss_one (vs_ret (ve_add (ve_add (ve_var 2) (ve_callF h_slanting hr rfl C (va_cons (ve_ix (ve_var 0) (ve_int)) (va_cons (ve_add (ve_var 1) (ve_lst (va_cons (ve_str) (va_nil)))) (va_nil))))) (ve_callF h_slanting hr rfl C (va_cons (ve_ix (ve_var 0) (ve_int)) (va_cons (ve_add (ve_var 1) (ve_lst (va_cons (ve_str) (va_nil)))) (va_nil))))))))
theorem all_slanting (t : Top K mg T) : ∀ k, Fn P w K mg base T k "slanting" 2 (m_slanting k)
  | 0 => fn_zero t.d_slanting rfl
  | k + 1 => fn_mk t.d_slanting sc_slanting (bd_slanting t (all_slants t k) (all_slanting t k))
abbrev s_exchanged : Stmt := top 6
abbrev N_exchanged : List Str := ["heap", "way", "ways", "left", "right"]
theorem sc_exchanged : FnScope N_exchanged ["heap", "way", "ways"] (defScope s_exchanged) := ⟨rfl, rfl, rfl, by decide +kernel, rfl, by decide +kernel, by decide +kernel⟩
theorem bd_exchanged {k : Nat} {c_exchanged : List SV → R} (t : Top K mg T) (h_exchanged : Fn P w K mg base T k "exchanged" 3 c_exchanged) : Bd P w K mg base T k N_exchanged "exchanged" s_exchanged (b_exchanged c_exchanged) := by
  intro f cdv A outer s0 H E B hr C po tk
  unfold b_exchanged
  exact vss_cons (vs_if (vt_cm (c_eq C) (ve_var 0) (ve_tup (va_nil))) (vss_one (vs_ret (ve_tup (va_nil)))) (vss_nil)) (vss_cons (vs_par2 3 4 false false C (ve_callF h_exchanged hr rfl C (va_cons (ve_ix (ve_var 0) (ve_int)) (va_cons (ve_add (ve_var 1) (ve_lst (va_cons (ve_str) (va_nil)))) (va_cons (ve_var 2) (va_nil))))) (ve_callF h_exchanged hr rfl C (va_cons (ve_ix (ve_var 0) (ve_int)) (va_cons (ve_add (ve_var 1) (ve_lst (va_cons (ve_str) (va_nil)))) (va_cons (ve_var 2) (va_nil)))))) (vss_one (vs_ret (ve_if (vt_cm (c_in C) (ve_var 1) (ve_var 2)) (ve_tup (va_cons (ve_var 4) (va_cons (ve_ix (ve_var 0) (ve_int)) (va_cons (ve_var 3) (va_nil))))) (ve_tup (va_cons (ve_var 3) (va_cons (ve_ix (ve_var 0) (ve_int)) (va_cons (ve_var 4) (va_nil)))))))))
theorem all_exchanged (t : Top K mg T) : ∀ k, Fn P w K mg base T k "exchanged" 3 (m_exchanged k)
  | 0 => fn_zero t.d_exchanged rfl
  | k + 1 => fn_mk t.d_exchanged sc_exchanged (bd_exchanged t (all_exchanged t k))
abbrev s_Leans_shows : Stmt := inClass (top 7) 0
abbrev N_Leans_shows : List Str := ["self", "heap"]
theorem sc_Leans_shows : FnScope N_Leans_shows ["self", "heap"] (defScope s_Leans_shows) := ⟨rfl, rfl, rfl, by decide +kernel, rfl, by decide +kernel, by decide +kernel⟩
theorem bd_Leans_shows {k : Nat} {c_slanting : List SV → R} (t : Top K mg T) (h_slanting : Fn P w K mg base T k "slanting" 2 c_slanting) : Bd P w K mg base T k N_Leans_shows "Leans.shows" s_Leans_shows (b_Leans_shows c_slanting) := by
  intro f cdv A outer s0 H E B hr C po tk
  unfold b_Leans_shows
  exact vss_one (vs_ret (ve_cm (c_eq C) (ve_callF h_slanting hr rfl C (va_cons (ve_var 1) (va_cons (ve_lst (va_nil)) (va_nil)))) (ve_lst (va_nil))))
theorem all_Leans_shows (t : Top K mg T) : ∀ k, FnC P w K mg base T k 0 "shows" 2 (m_Leans_shows k)
  | 0 => fnC_zero t.d_Leans_shows rfl
  | k + 1 => fnC_mk t.d_Leans_shows sc_Leans_shows (bd_Leans_shows t (all_slanting t k))
abbrev s_Slants_shows : Stmt := inClass (top 8) 1
abbrev N_Slants_shows : List Str := ["self", "heap"]
theorem sc_Slants_shows : FnScope N_Slants_shows ["self", "heap"] (defScope s_Slants_shows) := ⟨rfl, rfl, rfl, by decide +kernel, rfl, by decide +kernel, by decide +kernel⟩
theorem bd_Slants_shows {k : Nat} {c_knot_at : List SV → R} {c_slants : List SV → R} (t : Top K mg T) (h_knot_at : Fn P w K mg base T k "knot_at" 2 c_knot_at) (h_slants : Fn P w K mg base T k "slants" 1 c_slants) : Bd P w K mg base T k N_Slants_shows "Slants.shows" s_Slants_shows (b_Slants_shows c_knot_at c_slants) := by
  intro f cdv A outer s0 H E B hr C po tk
  unfold b_Slants_shows
  exact vss_one (vs_ret (ve_callF h_slants hr rfl C (va_cons (ve_callF h_knot_at hr rfl C (va_cons (ve_var 1) (va_cons (ve_at 1 0 t.c_Slants (ve_var 0)) (va_nil)))) (va_nil))))
theorem all_Slants_shows (t : Top K mg T) : ∀ k, FnC P w K mg base T k 1 "shows" 2 (m_Slants_shows k)
  | 0 => fnC_zero t.d_Slants_shows rfl
  | k + 1 => fnC_mk t.d_Slants_shows sc_Slants_shows (bd_Slants_shows t (all_knot_at t k) (all_slants t k))
abbrev s_Leaned_shows : Stmt := inClass (top 9) 1
abbrev N_Leaned_shows : List Str := ["self", "heap", "one", "other", "way"]
theorem sc_Leaned_shows : FnScope N_Leaned_shows ["self", "heap"] (defScope s_Leaned_shows) := ⟨rfl, rfl, rfl, by decide +kernel, rfl, by decide +kernel, by decide +kernel⟩
theorem bd_Leaned_shows {k : Nat} {c_knot_at : List SV → R} {c_slants : List SV → R} {c_exchanged : List SV → R} {c_slanting : List SV → R} (t : Top K mg T) (h_knot_at : Fn P w K mg base T k "knot_at" 2 c_knot_at) (h_slants : Fn P w K mg base T k "slants" 1 c_slants) (h_exchanged : Fn P w K mg base T k "exchanged" 3 c_exchanged) (h_slanting : Fn P w K mg base T k "slanting" 2 c_slanting) : Bd P w K mg base T k N_Leaned_shows "Leaned.shows" s_Leaned_shows (b_Leaned_shows c_knot_at c_slants c_exchanged c_slanting) := by
  intro f cdv A outer s0 H E B hr C po tk
  unfold b_Leaned_shows
  exact vss_cons (vs_if (vt_val (ve_any C ⟨rfl, t.b_any⟩ (ve_lc (own := [("one", 2), ("other", 3)]) C (vi_zip ⟨rfl, t.b_zip⟩ (va_cons (ve_at 2 1 t.c_Leaned (ve_var 0)) (va_cons (ve_slL (ve_at 2 1 t.c_Leaned (ve_var 0)) (ve_int)) (va_nil)))) (blkOk_by (N := N_Leaned_shows) (sc := defScope s_Leaned_shows) (by decide +kernel)) tr_2 (fun _ _ _ _ _ => pg_tup rfl (pgs_cons (pg_name (i := 2) C.nd rfl (by first | exact Or.inl rfl | exact Or.inr rfl)) (pgs_cons (pg_name (i := 3) C.nd rfl (by first | exact Or.inl rfl | exact Or.inr rfl)) (pgs_nil)))) (fun _ _ _ _ _ => vts_nil) (fun _ _ _ _ _ => ve_cm (c_geD C.blk) (ve_var 2) (ve_var 3))))) (vss_one (vs_ret (ve_bl))) (vss_nil)) (vss_cons (vs_if (vt_not (vt_val (ve_all C ⟨rfl, t.b_all⟩ (ve_lc (own := [("way", 4)]) C (vi_list (ve_at 2 1 t.c_Leaned (ve_var 0))) (blkOk_by (N := N_Leaned_shows) (sc := defScope s_Leaned_shows) (by decide +kernel)) tr_name (fun _ _ _ _ _ => pg_name (i := 4) C.nd rfl (by first | exact Or.inl rfl | exact Or.inr rfl)) (fun _ _ _ _ _ => vts_nil) (fun _ _ _ _ _ => ve_callF h_slants hr rfl C.blk (va_cons (ve_callF h_knot_at hr rfl C.blk (va_cons (ve_var 1) (va_cons (ve_var 4) (va_nil)))) (va_nil))))))) (vss_one (vs_ret (ve_bl))) (vss_nil)) (vss_one (vs_ret (ve_and (ve_cm (c_eq C) (ve_callF h_exchanged hr rfl C (va_cons (ve_var 1) (va_cons (ve_lst (va_nil)) (va_cons (ve_at 2 1 t.c_Leaned (ve_var 0)) (va_nil))))) (ve_at 2 0 t.c_Leaned (ve_var 0))) (ve_one (ve_cm (c_eq C) (ve_callF h_slanting hr rfl C (va_cons (ve_at 2 0 t.c_Leaned (ve_var 0)) (va_cons (ve_lst (va_nil)) (va_nil)))) (ve_lst (va_nil))))))))
theorem all_Leaned_shows (t : Top K mg T) : ∀ k, FnC P w K mg base T k 2 "shows" 2 (m_Leaned_shows k)
  | 0 => fnC_zero t.d_Leaned_shows rfl
  | k + 1 => fnC_mk t.d_Leaned_shows sc_Leaned_shows (bd_Leaned_shows t (all_knot_at t k) (all_slants t k) (all_exchanged t k) (all_slanting t k))
theorem all_shows (t : Top K mg T) (k : Nat) : FnSh P w K mg base T k "shows" 2 (m_shows k) := fnSh_of (all_Leans_shows t k) (all_Slants_shows t k) (all_Leaned_shows t k)
abbrev s_is_key : Stmt := top 23
abbrev N_is_key : List Str := ["thing"]
theorem sc_is_key : FnScope N_is_key ["thing"] (defScope s_is_key) := ⟨rfl, rfl, rfl, by decide +kernel, rfl, by decide +kernel, by decide +kernel⟩
theorem bd_is_key {k : Nat} (t : Top K mg T) : Bd P w K mg base T k N_is_key "is_key" s_is_key (b_is_key) := by
  intro f cdv A outer s0 H E B hr C po tk
  unfold b_is_key
  exact vss_one (vs_ret (ve_and (ve_isi ty_int ⟨rfl, t.b_isinstance⟩ ⟨rfl, t.b_int⟩ (by decide +kernel) (ve_var 0)) (ve_one (ve_not (ve_isi ty_bool ⟨rfl, t.b_isinstance⟩ ⟨rfl, t.b_bool⟩ (by decide +kernel) (ve_var 0))))))
theorem all_is_key (t : Top K mg T) : ∀ k, Fn P w K mg base T k "is_key" 1 (m_is_key k)
  | 0 => fn_zero t.d_is_key rfl
  | k + 1 => fn_mk t.d_is_key sc_is_key (bd_is_key t)
abbrev s_is_form : Stmt := top 24
abbrev N_is_form : List Str := ["thing", "waiting", "many", "here"]
theorem sc_is_form : FnScope N_is_form ["thing"] (defScope s_is_form) := ⟨rfl, rfl, rfl, by decide +kernel, rfl, by decide +kernel, by decide +kernel⟩
theorem bd_is_form {k : Nat} {c_is_key : List SV → R} (t : Top K mg T) (h_is_key : Fn P w K mg base T k "is_key" 1 c_is_key) : Bd P w K mg base T k N_is_form "is_form" s_is_form (b_is_form c_is_key) := by
  obtain ⟨tk_MOST, h_MOST⟩ := t.k_MOST
  intro f cdv A outer s0 H E B hr C po tk
  unfold b_is_form p_is_form_2 p_is_form_1
  exact vss_cons (vs_par2 1 2 true false C (ve_lst (va_cons (ve_var 0) (va_nil))) (ve_int)) (vss_cons (vs_while WF po (vt_bor 1 (vt_cm (c_ne C) (ve_var 1) (ve_lst (va_nil)))) (vss_cons (vs_pop 3 1 C) (vss_cons (vs_if (vt_w (vw_or (vt_not (vt_val (ve_isi ty_tuple ⟨rfl, t.b_isinstance⟩ ⟨rfl, t.b_tuple⟩ (by decide +kernel) (ve_var 3)))) (vw_or1 (vt_cm (c_nin C) (ve_len ⟨rfl, t.b_len⟩ (ve_var 3)) (ve_tup (va_cons (ve_int) (va_cons (ve_int) (va_nil)))))))) (vss_one (vs_ret (ve_bl))) (vss_nil)) (vss_one (vs_if (vt_cm (c_eq C) (ve_len ⟨rfl, t.b_len⟩ (ve_var 3)) (ve_int)) (vss_cons (vs_add 2 C (ve_int)) (vss_cons (vs_if (vt_w (vw_or (vt_cm c_gt (ve_var 2) (ve_gint rfl h_MOST)) (vw_or1 (vt_not (vt_val (ve_callF h_is_key hr rfl C (va_cons (ve_ix (ve_var 3) (ve_int)) (va_nil)))))))) (vss_one (vs_ret (ve_bl))) (vss_nil)) (vss_one (vs_ext 1 (ve_lst (va_cons (ve_ix (ve_var 3) (ve_int)) (va_cons (ve_ix (ve_var 3) (ve_int)) (va_nil)))))))) (vss_nil)))))) (vss_one (vs_ret (ve_bl))))
theorem all_is_form (t : Top K mg T) : ∀ k, Fn P w K mg base T k "is_form" 1 (m_is_form k)
  | 0 => fn_zero t.d_is_form rfl
  | k + 1 => fn_mk t.d_is_form sc_is_form (bd_is_form t (all_is_key t k))
abbrev s_is_ordered : Stmt := top 25
abbrev N_is_ordered : List Str := ["heap", "side"]
theorem sc_is_ordered : FnScope N_is_ordered ["heap"] (defScope s_is_ordered) := ⟨rfl, rfl, rfl, by decide +kernel, rfl, by decide +kernel, by decide +kernel⟩
theorem bd_is_ordered {k : Nat} {c_is_ordered : List SV → R} (t : Top K mg T) (h_is_ordered : Fn P w K mg base T k "is_ordered" 1 c_is_ordered) : Bd P w K mg base T k N_is_ordered "is_ordered" s_is_ordered (b_is_ordered c_is_ordered) := by
  intro f cdv A outer s0 H E B hr C po tk
  unfold b_is_ordered p_is_ordered_1
  exact vss_cons (vs_if (vt_cm (c_eq C) (ve_var 0) (ve_tup (va_nil))) (vss_one (vs_ret (ve_bl))) (vss_nil)) (vss_cons (vs_for C po (vi_tup (ve_tup (va_cons (ve_ix (ve_var 0) (ve_int)) (va_cons (ve_ix (ve_var 0) (ve_int)) (va_nil))))) tr_name (pg_name (i := 1) C.nd rfl (by first | exact Or.inl rfl | exact Or.inr rfl)) (vss_one (vs_if (vt_w (vw_and (vt_cm (c_ne C) (ve_var 1) (ve_tup (va_nil))) (vw_and1 (vt_cm c_lt (ve_ix (ve_var 1) (ve_int)) (ve_ix (ve_var 0) (ve_int)))))) (vss_one (vs_ret (ve_bl))) (vss_nil)))) (vss_one (vs_ret (ve_and (ve_callF h_is_ordered hr rfl C (va_cons (ve_ix (ve_var 0) (ve_int)) (va_nil))) (ve_one (ve_callF h_is_ordered hr rfl C (va_cons (ve_ix (ve_var 0) (ve_int)) (va_nil))))))))
theorem all_is_ordered (t : Top K mg T) : ∀ k, Fn P w K mg base T k "is_ordered" 1 (m_is_ordered k)
  | 0 => fn_zero t.d_is_ordered rfl
  | k + 1 => fn_mk t.d_is_ordered sc_is_ordered (bd_is_ordered t (all_is_ordered t k))
abbrev s_check_heap : Stmt := top 26
abbrev N_check_heap : List Str := ["heap"]
theorem sc_check_heap : FnScope N_check_heap ["heap"] (defScope s_check_heap) := ⟨rfl, rfl, rfl, by decide +kernel, rfl, by decide +kernel, by decide +kernel⟩
theorem bd_check_heap {k : Nat} {c_is_form : List SV → R} {c_is_ordered : List SV → R} (t : Top K mg T) (h_is_form : Fn P w K mg base T k "is_form" 1 c_is_form) (h_is_ordered : Fn P w K mg base T k "is_ordered" 1 c_is_ordered) : Bd P w K mg base T k N_check_heap "check_heap" s_check_heap (b_check_heap c_is_form c_is_ordered) := by
  intro f cdv A outer s0 H E B hr C po tk
  unfold b_check_heap
  exact vss_one (vs_if (vt_w (vw_or (vt_not (vt_val (ve_callF h_is_form hr rfl C (va_cons (ve_var 0) (va_nil))))) (vw_or1 (vt_not (vt_val (ve_callF h_is_ordered hr rfl C (va_cons (ve_var 0) (va_nil)))))))) (vss_one (vs_raiseE C tk t.e_BadHeap rfl)) (vss_nil))
theorem all_check_heap (t : Top K mg T) : ∀ k, Fn P w K mg base T k "check_heap" 1 (m_check_heap k)
  | 0 => fn_zero t.d_check_heap rfl
  | k + 1 => fn_mk t.d_check_heap sc_check_heap (bd_check_heap t (all_is_form t k) (all_is_ordered t k))
abbrev s_check_key : Stmt := top 27
abbrev N_check_key : List Str := ["key"]
theorem sc_check_key : FnScope N_check_key ["key"] (defScope s_check_key) := ⟨rfl, rfl, rfl, by decide +kernel, rfl, by decide +kernel, by decide +kernel⟩
theorem bd_check_key {k : Nat} {c_is_key : List SV → R} (t : Top K mg T) (h_is_key : Fn P w K mg base T k "is_key" 1 c_is_key) : Bd P w K mg base T k N_check_key "check_key" s_check_key (b_check_key c_is_key) := by
  intro f cdv A outer s0 H E B hr C po tk
  unfold b_check_key
  exact vss_one (vs_if (vt_not (vt_val (ve_callF h_is_key hr rfl C (va_cons (ve_var 0) (va_nil))))) (vss_one (vs_raiseE C tk t.e_BadKey rfl)) (vss_nil))
theorem all_check_key (t : Top K mg T) : ∀ k, Fn P w K mg base T k "check_key" 1 (m_check_key k)
  | 0 => fn_zero t.d_check_key rfl
  | k + 1 => fn_mk t.d_check_key sc_check_key (bd_check_key t (all_is_key t k))
abbrev s_check_keys : Stmt := top 28
abbrev N_check_keys : List Str := ["keys", "key"]
theorem sc_check_keys : FnScope N_check_keys ["keys"] (defScope s_check_keys) := ⟨rfl, rfl, rfl, by decide +kernel, rfl, by decide +kernel, by decide +kernel⟩
theorem bd_check_keys {k : Nat} {c_is_key : List SV → R} (t : Top K mg T) (h_is_key : Fn P w K mg base T k "is_key" 1 c_is_key) : Bd P w K mg base T k N_check_keys "check_keys" s_check_keys (b_check_keys c_is_key) := by
  obtain ⟨tk_MOST, h_MOST⟩ := t.k_MOST
  intro f cdv A outer s0 H E B hr C po tk
  unfold b_check_keys
  exact vss_one (vs_if (vt_w (vw_or (vt_not (vt_val (ve_isi ty_list ⟨rfl, t.b_isinstance⟩ ⟨rfl, t.b_list⟩ (by decide +kernel) (ve_var 0)))) (vw_or (vt_cm c_gt (ve_len ⟨rfl, t.b_len⟩ (ve_var 0)) (ve_gint rfl h_MOST)) (vw_or1 (vt_not (vt_val (ve_all C ⟨rfl, t.b_all⟩ (ve_lc (own := [("key", 1)]) C (vi_list (ve_var 0)) (blkOk_by (N := N_check_keys) (sc := defScope s_check_keys) (by decide +kernel)) tr_name (fun _ _ _ _ _ => pg_name (i := 1) C.nd rfl (by first | exact Or.inl rfl | exact Or.inr rfl)) (fun _ _ _ _ _ => vts_nil) (fun _ _ _ _ _ => ve_callF h_is_key hr rfl C.blk (va_cons (ve_var 1) (va_nil))))))))))) (vss_one (vs_raiseE C tk t.e_BadKey rfl)) (vss_nil))
theorem all_check_keys (t : Top K mg T) : ∀ k, Fn P w K mg base T k "check_keys" 1 (m_check_keys k)
  | 0 => fn_zero t.d_check_keys rfl
  | k + 1 => fn_mk t.d_check_keys sc_check_keys (bd_check_keys t (all_is_key t k))
abbrev s_row_from : Stmt := top 29
abbrev N_row_from : List Str := ["heap"]
theorem sc_row_from : FnScope N_row_from ["heap"] (defScope s_row_from) := ⟨rfl, rfl, rfl, by decide +kernel, rfl, by decide +kernel, by decide +kernel⟩
theorem bd_row_from {k : Nat} {c_row_from : List SV → R} (t : Top K mg T) (h_row_from : Fn P w K mg base T k "row_from" 1 c_row_from) : Bd P w K mg base T k N_row_from "row_from" s_row_from (b_row_from c_row_from) := by
  intro f cdv A outer s0 H E B hr C po tk
  unfold b_row_from
  exact vss_one (vs_ret (ve_if (vt_cm (c_eq C) (ve_var 0) (ve_tup (va_nil))) (ve_lst (va_nil)) (ve_add (ve_add (ve_callF h_row_from hr rfl C (va_cons (ve_ix (ve_var 0) (ve_int)) (va_nil))) (ve_lst (va_cons (ve_ix (ve_var 0) (ve_int)) (va_nil)))) (ve_callF h_row_from hr rfl C (va_cons (ve_ix (ve_var 0) (ve_int)) (va_nil))))))
theorem all_row_from (t : Top K mg T) : ∀ k, Fn P w K mg base T k "row_from" 1 (m_row_from k)
  | 0 => fn_zero t.d_row_from rfl
  | k + 1 => fn_mk t.d_row_from sc_row_from (bd_row_from t (all_row_from t k))
abbrev s_size_of : Stmt := top 30
abbrev N_size_of : List Str := ["heap"]
theorem sc_size_of : FnScope N_size_of ["heap"] (defScope s_size_of) := ⟨rfl, rfl, rfl, by decide +kernel, rfl, by decide +kernel, by decide +kernel⟩
theorem bd_size_of {k : Nat} {c_size_of : List SV → R} (t : Top K mg T) (h_size_of : Fn P w K mg base T k "size_of" 1 c_size_of) : Bd P w K mg base T k N_size_of "size_of" s_size_of (b_size_of c_size_of) := by
  intro f cdv A outer s0 H E B hr C po tk
  unfold b_size_of
  exact vss_one (vs_ret (ve_if (vt_cm (c_eq C) (ve_var 0) (ve_tup (va_nil))) (ve_int) (ve_add (ve_add (ve_int) (ve_callF h_size_of hr rfl C (va_cons (ve_ix (ve_var 0) (ve_int)) (va_nil)))) (ve_callF h_size_of hr rfl C (va_cons (ve_ix (ve_var 0) (ve_int)) (va_nil))))))
theorem all_size_of (t : Top K mg T) : ∀ k, Fn P w K mg base T k "size_of" 1 (m_size_of k)
  | 0 => fn_zero t.d_size_of rfl
  | k + 1 => fn_mk t.d_size_of sc_size_of (bd_size_of t (all_size_of t k))
abbrev s_keys_of : Stmt := top 31
abbrev N_keys_of : List Str := ["heap"]
theorem sc_keys_of : FnScope N_keys_of ["heap"] (defScope s_keys_of) := ⟨rfl, rfl, rfl, by decide +kernel, rfl, by decide +kernel, by decide +kernel⟩
theorem bd_keys_of {k : Nat} {c_check_heap : List SV → R} {c_row_from : List SV → R} (t : Top K mg T) (h_check_heap : Fn P w K mg base T k "check_heap" 1 c_check_heap) (h_row_from : Fn P w K mg base T k "row_from" 1 c_row_from) : Bd P w K mg base T k N_keys_of "keys_of" s_keys_of (b_keys_of c_check_heap c_row_from) := by
  intro f cdv A outer s0 H E B hr C po tk
  unfold b_keys_of
  exact vss_cons (vs_expr (ve_callF h_check_heap hr rfl C (va_cons (ve_var 0) (va_nil)))) (vss_one (vs_ret (ve_sorted ⟨rfl, t.b_sorted⟩ (ve_callF h_row_from hr rfl C (va_cons (ve_var 0) (va_nil))))))
theorem all_keys_of (t : Top K mg T) : ∀ k, Fn P w K mg base T k "keys_of" 1 (m_keys_of k)
  | 0 => fn_zero t.d_keys_of rfl
  | k + 1 => fn_mk t.d_keys_of sc_keys_of (bd_keys_of t (all_check_heap t k) (all_row_from t k))
abbrev s_check_both : Stmt := top 32
abbrev N_check_both : List Str := ["one", "other"]
theorem sc_check_both : FnScope N_check_both ["one", "other"] (defScope s_check_both) := ⟨rfl, rfl, rfl, by decide +kernel, rfl, by decide +kernel, by decide +kernel⟩
theorem bd_check_both {k : Nat} {c_check_heap : List SV → R} {c_size_of : List SV → R} (t : Top K mg T) (h_check_heap : Fn P w K mg base T k "check_heap" 1 c_check_heap) (h_size_of : Fn P w K mg base T k "size_of" 1 c_size_of) : Bd P w K mg base T k N_check_both "check_both" s_check_both (b_check_both c_check_heap c_size_of) := by
  obtain ⟨tk_MOST, h_MOST⟩ := t.k_MOST
  intro f cdv A outer s0 H E B hr C po tk
  unfold b_check_both
  exact vss_cons (vs_expr (ve_callF h_check_heap hr rfl C (va_cons (ve_var 0) (va_nil)))) (vss_cons (vs_expr (ve_callF h_check_heap hr rfl C (va_cons (ve_var 1) (va_nil)))) (vss_one (vs_if (vt_cm c_gt (ve_add (ve_callF h_size_of hr rfl C (va_cons (ve_var 0) (va_nil))) (ve_callF h_size_of hr rfl C (va_cons (ve_var 1) (va_nil)))) (ve_gint rfl h_MOST)) (vss_one (vs_raiseE C tk t.e_TooMany rfl)) (vss_nil))))
theorem all_check_both (t : Top K mg T) : ∀ k, Fn P w K mg base T k "check_both" 2 (m_check_both k)
  | 0 => fn_zero t.d_check_both rfl
  | k + 1 => fn_mk t.d_check_both sc_check_both (bd_check_both t (all_check_heap t k) (all_size_of t k))
abbrev s_check_leaning : Stmt := top 34
abbrev N_check_leaning : List Str := ["heap"]
theorem sc_check_leaning : FnScope N_check_leaning ["heap"] (defScope s_check_leaning) := ⟨rfl, rfl, rfl, by decide +kernel, rfl, by decide +kernel, by decide +kernel⟩
theorem bd_check_leaning {k : Nat} {c_slanting : List SV → R} (t : Top K mg T) (h_slanting : Fn P w K mg base T k "slanting" 2 c_slanting) : Bd P w K mg base T k N_check_leaning "check_leaning" s_check_leaning (b_check_leaning c_slanting) := by
  intro f cdv A outer s0 H E B hr C po tk
  unfold b_check_leaning
  exact vss_one (vs_if (vt_cm (c_ne C) (ve_callF h_slanting hr rfl C (va_cons (ve_var 0) (va_cons (ve_lst (va_nil)) (va_nil)))) (ve_lst (va_nil))) (vss_one (vs_raiseE C tk t.e_NotLeaning rfl)) (vss_nil))
theorem all_check_leaning (t : Top K mg T) : ∀ k, Fn P w K mg base T k "check_leaning" 1 (m_check_leaning k)
  | 0 => fn_zero t.d_check_leaning rfl
  | k + 1 => fn_mk t.d_check_leaning sc_check_leaning (bd_check_leaning t (all_slanting t k))
abbrev s_rank : Stmt := top 35
abbrev N_rank : List Str := ["heap"]
theorem sc_rank : FnScope N_rank ["heap"] (defScope s_rank) := ⟨rfl, rfl, rfl, by decide +kernel, rfl, by decide +kernel, by decide +kernel⟩
theorem bd_rank {k : Nat} {c_check_heap : List SV → R} {c_rank_of : List SV → R} (t : Top K mg T) (h_check_heap : Fn P w K mg base T k "check_heap" 1 c_check_heap) (h_rank_of : Fn P w K mg base T k "rank_of" 1 c_rank_of) : Bd P w K mg base T k N_rank "rank" s_rank (b_rank c_check_heap c_rank_of) := by
  intro f cdv A outer s0 H E B hr C po tk
  unfold b_rank
  exact vss_cons (vs_expr (ve_callF h_check_heap hr rfl C (va_cons (ve_var 0) (va_nil)))) (vss_one (vs_ret (ve_callF h_rank_of hr rfl C (va_cons (ve_var 0) (va_nil)))))
theorem all_rank (t : Top K mg T) : ∀ k, Fn P w K mg base T k "rank" 1 (m_rank k)
  | 0 => fn_zero t.d_rank rfl
  | k + 1 => fn_mk t.d_rank sc_rank (bd_rank t (all_check_heap t k) (all_rank_of t k))
abbrev s_judged : Stmt := top 36
abbrev N_judged : List Str := ["heap", "found"]
theorem sc_judged : FnScope N_judged ["heap"] (defScope s_judged) := ⟨rfl, rfl, rfl, by decide +kernel, rfl, by decide +kernel, by decide +kernel⟩
theorem bd_judged {k : Nat} {c_check_heap : List SV → R} {c_slanting : List SV → R} {c_Slants : List FE → FE} (t : Top K mg T) (h_check_heap : Fn P w K mg base T k "check_heap" 1 c_check_heap) (h_slanting : Fn P w K mg base T k "slanting" 2 c_slanting) (h_Slants : FnN P w K mg base T k 1 c_Slants) : Bd P w K mg base T k N_judged "judged" s_judged (b_judged c_check_heap c_slanting c_Slants) := by
  intro f cdv A outer s0 H E B hr C po tk
  unfold b_judged
  exact vss_cons (vs_expr (ve_callF h_check_heap hr rfl C (va_cons (ve_var 0) (va_nil)))) (vss_cons (vs_set 1 C (ve_callF h_slanting hr rfl C (va_cons (ve_var 0) (va_cons (ve_lst (va_nil)) (va_nil))))) (vss_one (vs_ret (ve_if (vt_cm (c_eq C) (ve_var 1) (ve_lst (va_nil))) (ve_new0 0 t.c_Leans t.z_Leans rfl) (ve_new t.c_Slants h_Slants hr rfl C (va_cons (ve_ix (ve_var 1) (ve_int)) (va_nil)))))))
theorem all_judged (t : Top K mg T) : ∀ k, Fn P w K mg base T k "judged" 1 (m_judged k)
  | 0 => fn_zero t.d_judged rfl
  | k + 1 => fn_mk t.d_judged sc_judged (bd_judged t (all_check_heap t k) (all_slanting t k) (all_Slants t k))
abbrev s_leaning_knot : Stmt := top 37
abbrev N_leaning_knot : List Str := ["left", "key", "right"]
theorem sc_leaning_knot : FnScope N_leaning_knot ["left", "key", "right"] (defScope s_leaning_knot) := ⟨rfl, rfl, rfl, by decide +kernel, rfl, by decide +kernel, by decide +kernel⟩
theorem bd_leaning_knot {k : Nat} {c_rank_of : List SV → R} (t : Top K mg T) (h_rank_of : Fn P w K mg base T k "rank_of" 1 c_rank_of) : Bd P w K mg base T k N_leaning_knot "leaning_knot" s_leaning_knot (b_leaning_knot c_rank_of) := by
  intro f cdv A outer s0 H E B hr C po tk
  unfold b_leaning_knot
  exact vss_cons (vs_if (vt_cm c_lt (ve_callF h_rank_of hr rfl C (va_cons (ve_var 0) (va_nil))) (ve_callF h_rank_of hr rfl C (va_cons (ve_var 2) (va_nil)))) (vss_one (vs_ret (ve_tup (va_cons (ve_var 2) (va_cons (ve_var 1) (va_cons (ve_var 0) (va_nil))))))) (vss_nil)) (vss_one (vs_ret (ve_tup (va_cons (ve_var 0) (va_cons (ve_var 1) (va_cons (ve_var 2) (va_nil)))))))
theorem all_leaning_knot (t : Top K mg T) : ∀ k, Fn P w K mg base T k "leaning_knot" 3 (m_leaning_knot k)
  | 0 => fn_zero t.d_leaning_knot rfl
  | k + 1 => fn_mk t.d_leaning_knot sc_leaning_knot (bd_leaning_knot t (all_rank_of t k))
abbrev s_joinL : Stmt := top 38
abbrev N_joinL : List Str := ["one", "other"]
theorem sc_joinL : FnScope N_joinL ["one", "other"] (defScope s_joinL) := ⟨rfl, rfl, rfl, by decide +kernel, rfl, by decide +kernel, by decide +kernel⟩
theorem bd_joinL {k : Nat} {c_joinL : List SV → R} {c_leaning_knot : List SV → R} (t : Top K mg T) (h_joinL : Fn P w K mg base T k "joined_of_leaning" 2 c_joinL) (h_leaning_knot : Fn P w K mg base T k "leaning_knot" 3 c_leaning_knot) : Bd P w K mg base T k N_joinL "joined_of" s_joinL (b_joinL c_joinL c_leaning_knot) := by
  intro f cdv A outer s0 H E B hr C po tk
  unfold b_joinL
  exact vss_cons (vs_if (vt_w (vw_or (vt_cm (c_eq C) (ve_var 0) (ve_tup (va_nil))) (vw_or1 (vt_cm (c_eq C) (ve_var 1) (ve_tup (va_nil)))))) (vss_one (vs_ret (ve_if (vt_cm (c_eq C) (ve_var 1) (ve_tup (va_nil))) (ve_var 0) (ve_var 1)))) (vss_nil)) (vss_cons (vs_if (vt_cm c_lt (ve_ix (ve_var 1) (ve_int)) (ve_ix (ve_var 0) (ve_int))) (vss_one (vs_par2 0 1 false false C (ve_var 1) (ve_var 0))) (vss_nil)) (vss_one (vs_ret (ve_callF h_leaning_knot hr rfl C (va_cons (ve_ix (ve_var 0) (ve_int)) (va_cons (ve_ix (ve_var 0) (ve_int)) (va_cons (ve_callF h_joinL hr rfl C (va_cons (ve_ix (ve_var 0) (ve_int)) (va_cons (ve_var 1) (va_nil)))) (va_nil))))))))
theorem all_joinL (t : Top K mg T) : ∀ k, Fn P w K mg base T k "joined_of_leaning" 2 (m_joinL k)
  | 0 => fn_zero t.d_joinL rfl
  | k + 1 => fn_mk t.d_joinL sc_joinL (bd_joinL t (all_joinL t k) (all_leaning_knot t k))
abbrev s_lean_join : Stmt := top 40
abbrev N_lean_join : List Str := ["one", "other"]
theorem sc_lean_join : FnScope N_lean_join ["one", "other"] (defScope s_lean_join) := ⟨rfl, rfl, rfl, by decide +kernel, rfl, by decide +kernel, by decide +kernel⟩
theorem bd_lean_join {k : Nat} {c_check_both : List SV → R} {c_check_leaning : List SV → R} {c_joinL : List SV → R} (t : Top K mg T) (h_check_both : Fn P w K mg base T k "check_both" 2 c_check_both) (h_check_leaning : Fn P w K mg base T k "check_leaning" 1 c_check_leaning) (h_joinL : Fn P w K mg base T k "joined_of_leaning" 2 c_joinL) : Bd P w K mg base T k N_lean_join "lean_join" s_lean_join (b_lean_join c_check_both c_check_leaning c_joinL) := by
  intro f cdv A outer s0 H E B hr C po tk
  unfold b_lean_join
  exact vss_cons (vs_expr (ve_callF h_check_both hr rfl C (va_cons (ve_var 0) (va_cons (ve_var 1) (va_nil))))) (vss_cons (vs_expr (ve_callF h_check_leaning hr rfl C (va_cons (ve_var 0) (va_nil)))) (vss_cons (vs_expr (ve_callF h_check_leaning hr rfl C (va_cons (ve_var 1) (va_nil)))) (vss_one (vs_ret (ve_callF h_joinL hr rfl C (va_cons (ve_var 0) (va_cons (ve_var 1) (va_nil))))))))
theorem all_lean_join (t : Top K mg T) : ∀ k, Fn P w K mg base T k "lean_join" 2 (m_lean_join k)
  | 0 => fn_zero t.d_lean_join rfl
  | k + 1 => fn_mk t.d_lean_join sc_lean_join (bd_lean_join t (all_check_both t k) (all_check_leaning t k) (all_joinL t k))
abbrev s_lean_take : Stmt := top 41
abbrev N_lean_take : List Str := ["heap"]
theorem sc_lean_take : FnScope N_lean_take ["heap"] (defScope s_lean_take) := ⟨rfl, rfl, rfl, by decide +kernel, rfl, by decide +kernel, by decide +kernel⟩
theorem bd_lean_take {k : Nat} {c_check_heap : List SV → R} {c_check_leaning : List SV → R} {c_joinL : List SV → R} (t : Top K mg T) (h_check_heap : Fn P w K mg base T k "check_heap" 1 c_check_heap) (h_check_leaning : Fn P w K mg base T k "check_leaning" 1 c_check_leaning) (h_joinL : Fn P w K mg base T k "joined_of_leaning" 2 c_joinL) : Bd P w K mg base T k N_lean_take "lean_take" s_lean_take (b_lean_take c_check_heap c_check_leaning c_joinL) := by
  intro f cdv A outer s0 H E B hr C po tk
  unfold b_lean_take
  exact vss_cons (vs_expr (ve_callF h_check_heap hr rfl C (va_cons (ve_var 0) (va_nil)))) (vss_cons (vs_expr (ve_callF h_check_leaning hr rfl C (va_cons (ve_var 0) (va_nil)))) (vss_cons (vs_if (vt_cm (c_eq C) (ve_var 0) (ve_tup (va_nil))) (vss_one (vs_raiseE C tk t.e_Empty rfl)) (vss_nil)) (vss_one (vs_ret (ve_tup (va_cons (ve_ix (ve_var 0) (ve_int)) (va_cons (ve_callF h_joinL hr rfl C (va_cons (ve_ix (ve_var 0) (ve_int)) (va_cons (ve_ix (ve_var 0) (ve_int)) (va_nil)))) (va_nil))))))))
theorem all_lean_take (t : Top K mg T) : ∀ k, Fn P w K mg base T k "lean_take" 1 (m_lean_take k)
  | 0 => fn_zero t.d_lean_take rfl
  | k + 1 => fn_mk t.d_lean_take sc_lean_take (bd_lean_take t (all_check_heap t k) (all_check_leaning t k) (all_joinL t k))
abbrev s_lean_of : Stmt := top 42
abbrev N_lean_of : List Str := ["keys", "waiting", "key"]
theorem sc_lean_of : FnScope N_lean_of ["keys"] (defScope s_lean_of) := ⟨rfl, rfl, rfl, by decide +kernel, rfl, by decide +kernel, by decide +kernel⟩
theorem bd_lean_of {k : Nat} {c_check_keys : List SV → R} {c_joinL : List SV → R} (t : Top K mg T) (h_check_keys : Fn P w K mg base T k "check_keys" 1 c_check_keys) (h_joinL : Fn P w K mg base T k "joined_of_leaning" 2 c_joinL) : Bd P w K mg base T k N_lean_of "lean_of" s_lean_of (b_lean_of c_check_keys c_joinL) := by
  intro f cdv A outer s0 H E B hr C po tk
  unfold b_lean_of p_lean_of_2 p_lean_of_1
  exact vss_cons (vs_expr (ve_callF h_check_keys hr rfl C (va_cons (ve_var 0) (va_nil)))) (vss_cons (vs_setLc 1 (own := [("key", 2)]) C (vi_list (ve_var 0)) (blkOk_by (N := N_lean_of) (sc := defScope s_lean_of) (by decide +kernel)) tr_name (fun _ _ _ _ _ => pg_name (i := 2) C.nd rfl (by first | exact Or.inl rfl | exact Or.inr rfl)) (fun _ _ _ _ _ => vts_nil) (fun _ _ _ _ _ => ve_tup (va_cons (ve_tup (va_nil)) (va_cons (ve_var 2) (va_cons (ve_tup (va_nil)) (va_nil)))))) (vss_cons (vs_while WF po (vt_cm c_gt (ve_len ⟨rfl, t.b_len⟩ (ve_var 1)) (ve_int)) (vss_one (vs_set 1 C (ve_add (ve_slL (ve_var 1) (ve_int)) (ve_lst (va_cons (ve_callF h_joinL hr rfl C (va_cons (ve_ix (ve_var 1) (ve_int)) (va_cons (ve_ix (ve_var 1) (ve_int)) (va_nil)))) (va_nil))))))) (vss_one (vs_ret (ve_if (vt_cm (c_ne C) (ve_var 1) (ve_lst (va_nil))) (ve_ix (ve_var 1) (ve_int)) (ve_tup (va_nil)))))))
theorem all_lean_of (t : Top K mg T) : ∀ k, Fn P w K mg base T k "lean_of" 1 (m_lean_of k)
  | 0 => fn_zero t.d_lean_of rfl
  | k + 1 => fn_mk t.d_lean_of sc_lean_of (bd_lean_of t (all_check_keys t k) (all_joinL t k))
abbrev s_leaned : Stmt := top 43
abbrev N_leaned : List Str := ["heap", "ways"]
theorem sc_leaned : FnScope N_leaned ["heap"] (defScope s_leaned) := ⟨rfl, rfl, rfl, by decide +kernel, rfl, by decide +kernel, by decide +kernel⟩
theorem bd_leaned {k : Nat} {c_check_heap : List SV → R} {c_slanting : List SV → R} {c_exchanged : List SV → R} {c_Leaned : List FE → FE} (t : Top K mg T) (h_check_heap : Fn P w K mg base T k "check_heap" 1 c_check_heap) (h_slanting : Fn P w K mg base T k "slanting" 2 c_slanting) (h_exchanged : Fn P w K mg base T k "exchanged" 3 c_exchanged) (h_Leaned : FnN P w K mg base T k 2 c_Leaned) : Bd P w K mg base T k N_leaned "leaned" s_leaned (b_leaned c_check_heap c_slanting c_exchanged c_Leaned) := by
  intro f cdv A outer s0 H E B hr C po tk
  unfold b_leaned
  exact vss_cons (vs_expr (ve_callF h_check_heap hr rfl C (va_cons (ve_var 0) (va_nil)))) (vss_cons (vs_set 1 C (ve_sortedD C ⟨rfl, t.b_sorted⟩ (ve_callF h_slanting hr rfl C (va_cons (ve_var 0) (va_cons (ve_lst (va_nil)) (va_nil)))))) (vss_one (vs_ret (ve_new t.c_Leaned h_Leaned hr rfl C (va_cons (ve_callF h_exchanged hr rfl C (va_cons (ve_var 0) (va_cons (ve_lst (va_nil)) (va_cons (ve_var 1) (va_nil))))) (va_cons (ve_var 1) (va_nil)))))))
theorem all_leaned (t : Top K mg T) : ∀ k, Fn P w K mg base T k "leaned" 1 (m_leaned k)
  | 0 => fn_zero t.d_leaned rfl
  | k + 1 => fn_mk t.d_leaned sc_leaned (bd_leaned t (all_check_heap t k) (all_slanting t k) (all_exchanged t k) (all_Leaned t k))
abbrev s_check_count : Stmt := top 45
abbrev N_check_count : List Str := ["keys"]
theorem sc_check_count : FnScope N_check_count ["keys"] (defScope s_check_count) := ⟨rfl, rfl, rfl, by decide +kernel, rfl, by decide +kernel, by decide +kernel⟩
theorem bd_check_count {k : Nat} {c_is_key : List SV → R} (t : Top K mg T) (h_is_key : Fn P w K mg base T k "is_key" 1 c_is_key) : Bd P w K mg base T k N_check_count "check_count" s_check_count (b_check_count c_is_key) := by
  obtain ⟨tk_MOST, h_MOST⟩ := t.k_MOST
  intro f cdv A outer s0 H E B hr C po tk
  unfold b_check_count
  exact vss_one (vs_if (vt_w (vw_or (vt_not (vt_val (ve_callF h_is_key hr rfl C (va_cons (ve_var 0) (va_nil))))) (vw_or1 (vt_not (vt_chn c_le c_le (ve_int) (ve_var 0) (ve_gint rfl h_MOST)))))) (vss_one (vs_raiseE C tk t.e_BadCount rfl)) (vss_nil))
theorem all_check_count (t : Top K mg T) : ∀ k, Fn P w K mg base T k "check_count" 1 (m_check_count k)
  | 0 => fn_zero t.d_check_count rfl
  | k + 1 => fn_mk t.d_check_count sc_check_count (bd_check_count t (all_is_key t k))
abbrev s_many_of : Stmt := top 46
abbrev N_many_of : List Str := ["keys", "rank", "known", "spot", "left", "many"]
theorem sc_many_of : FnScope N_many_of ["keys", "rank", "known"] (defScope s_many_of) := ⟨rfl, rfl, rfl, by decide +kernel, rfl, by decide +kernel, by decide +kernel⟩
theorem bd_many_of {k : Nat} {c_parted : List SV → R} (t : Top K mg T) (h_parted : Fn P w K mg base T k "parted" 3 c_parted) : Bd P w K mg base T k N_many_of "many_of" s_many_of (b_many_of c_parted) := by
  intro f cdv A outer s0 H E B hr C po tk
  unfold b_many_of
  exact vss_cons (vs_if (vt_w (vw_or (vt_cm (c_eq C) (ve_var 0) (ve_int)) (vw_or1 (vt_cm (c_eq C) (ve_var 1) (ve_int))))) (vss_one (vs_ret (ve_int1 ⟨rfl, t.b_int⟩ (ve_cm (c_eq C) (ve_var 0) (ve_var 1))))) (vss_nil)) (vss_cons (vs_if (vt_cm c_gt (ve_sub (ve_shl (ve_int) (ve_var 1)) (ve_int)) (ve_var 0)) (vss_one (vs_ret (ve_int))) (vss_nil)) (vss_memo 3 2 0 1 C (ve_sum C ⟨rfl, t.b_sum⟩ (ve_lc (own := [("left", 4), ("many", 5)]) C (vi_list (ve_callF h_parted hr rfl C (va_cons (ve_var 0) (va_cons (ve_var 1) (va_cons (ve_var 2) (va_nil)))))) (blkOk_by (N := N_many_of) (sc := defScope s_many_of) (by decide +kernel)) tr_2 (fun _ _ _ _ _ => pg_tup rfl (pgs_cons (pg_name (i := 4) C.nd rfl (by first | exact Or.inl rfl | exact Or.inr rfl)) (pgs_cons (pg_name (i := 5) C.nd rfl (by first | exact Or.inl rfl | exact Or.inr rfl)) (pgs_nil)))) (fun _ _ _ _ _ => vts_nil) (fun _ _ _ _ _ => ve_var 5)))))
abbrev s_parted : Stmt := top 48
abbrev N_parted : List Str := ["keys", "rank", "known", "found", "left", "many"]
theorem sc_parted : FnScope N_parted ["keys", "rank", "known"] (defScope s_parted) := ⟨rfl, rfl, rfl, by decide +kernel, rfl, by decide +kernel, by decide +kernel⟩
theorem bd_parted {k : Nat} {c_many_of : List SV → R} {c_at_least : List SV → R} (t : Top K mg T) (h_many_of : Fn P w K mg base T k "many_of" 3 c_many_of) (h_at_least : Fn P w K mg base T k "at_least" 3 c_at_least) : Bd P w K mg base T k N_parted "parted" s_parted (b_parted c_many_of c_at_least) := by
  intro f cdv A outer s0 H E B hr C po tk
  unfold b_parted p_parted_1
  exact vss_cons (vs_own 3 C (ve_lst (va_nil))) (vss_cons (vs_for C po (vi_range1 ⟨rfl, t.b_range⟩ (va_cons (ve_var 0) (va_nil))) tr_name (pg_name (i := 4) C.nd rfl (by first | exact Or.inl rfl | exact Or.inr rfl)) (vss_cons (vs_set 5 C (ve_callF h_many_of hr rfl C (va_cons (ve_sub (ve_sub (ve_var 0) (ve_int)) (ve_var 4)) (va_cons (ve_sub (ve_var 1) (ve_int)) (va_cons (ve_var 2) (va_nil)))))) (vss_one (vs_if (vt_cm c_gt (ve_var 5) (ve_int)) (vss_one (vs_app 3 (ve_tup (va_cons (ve_var 4) (va_cons (ve_mul (ve_var 5) (ve_callF h_at_least hr rfl C (va_cons (ve_var 4) (va_cons (ve_sub (ve_var 1) (ve_int)) (va_cons (ve_var 2) (va_nil)))))) (va_nil)))))) (vss_nil))))) (vss_one (vs_retO 3)))
abbrev s_at_least : Stmt := top 47
abbrev N_at_least : List Str := ["keys", "rank", "known", "found", "here"]
theorem sc_at_least : FnScope N_at_least ["keys", "rank", "known"] (defScope s_at_least) := ⟨rfl, rfl, rfl, by decide +kernel, rfl, by decide +kernel, by decide +kernel⟩
theorem bd_at_least {k : Nat} {c_many_of : List SV → R} (t : Top K mg T) (h_many_of : Fn P w K mg base T k "many_of" 3 c_many_of) : Bd P w K mg base T k N_at_least "at_least" s_at_least (b_at_least c_many_of) := by
  intro f cdv A outer s0 H E B hr C po tk
  unfold b_at_least p_at_least_2 p_at_least_1
  exact vss_cons (vs_par2 3 4 false false C (ve_int) (ve_var 1)) (vss_cons (vs_while WF po (vt_cm c_le (ve_sub (ve_shl (ve_int) (ve_var 4)) (ve_int)) (ve_var 0)) (vss_cons (vs_add 3 C (ve_callF h_many_of hr rfl C (va_cons (ve_var 0) (va_cons (ve_var 4) (va_cons (ve_var 2) (va_nil)))))) (vss_one (vs_add 4 C (ve_int))))) (vss_one (vs_ret (ve_var 3))))
mutual
theorem all_many_of (t : Top K mg T) : ∀ k, Fn P w K mg base T k "many_of" 3 (m_many_of k)
  | 0 => fn_zero t.d_many_of rfl
  | k + 1 => fn_mk t.d_many_of sc_many_of (bd_many_of t (all_parted t k))
theorem all_parted (t : Top K mg T) : ∀ k, Fn P w K mg base T k "parted" 3 (m_parted k)
  | 0 => fn_zero t.d_parted rfl
  | k + 1 => fn_mk t.d_parted sc_parted (bd_parted t (all_many_of t k) (all_at_least t k))
theorem all_at_least (t : Top K mg T) : ∀ k, Fn P w K mg base T k "at_least" 3 (m_at_least k)
  | 0 => fn_zero t.d_at_least rfl
  | k + 1 => fn_mk t.d_at_least sc_at_least (bd_at_least t (all_many_of t k))
end
theorem allM_many_of (t : Top K mg T) : ∀ k, FnM P w K mg base T k "many_of" 3 (m_many_of k)
  | 0 => fnM_zero t.d_many_of rfl
  | k + 1 => fnM_mk t.d_many_of sc_many_of fun me => bd_many_of (t.tab me) (all_parted (t.tab me) k)
theorem allM_parted (t : Top K mg T) : ∀ k, FnM P w K mg base T k "parted" 3 (m_parted k)
  | 0 => fnM_zero t.d_parted rfl
  | k + 1 => fnM_mk t.d_parted sc_parted fun me => bd_parted (t.tab me) (all_many_of (t.tab me) k) (all_at_least (t.tab me) k)
theorem allM_at_least (t : Top K mg T) : ∀ k, FnM P w K mg base T k "at_least" 3 (m_at_least k)
  | 0 => fnM_zero t.d_at_least rfl
  | k + 1 => fnM_mk t.d_at_least sc_at_least fun me => bd_at_least (t.tab me) (all_many_of (t.tab me) k)
abbrev s_how_many : Stmt := top 49
abbrev N_how_many : List Str := ["keys"]
theorem sc_how_many : FnScope N_how_many ["keys"] (defScope s_how_many) := ⟨rfl, rfl, rfl, by decide +kernel, rfl, by decide +kernel, by decide +kernel⟩
theorem bd_how_many {k : Nat} {c_check_count : List SV → R} {c_at_least : List SV → R} (t : Top K mg T) (h_check_count : Fn P w K mg base T k "check_count" 1 c_check_count) (h_at_least : FnM P w K mg base T k "at_least" 3 c_at_least) : Bd P w K mg base T k N_how_many "how_many" s_how_many (b_how_many c_check_count c_at_least) := by
  intro f cdv A outer s0 H E B hr C po tk
  unfold b_how_many
  exact vss_cons (vs_expr (ve_callF h_check_count hr rfl C (va_cons (ve_var 0) (va_nil)))) (vss_one (vs_ret (ve_callM h_at_least hr rfl C (vm_cons (ve_var 0) (vm_cons (ve_int) (vm_last))))))
theorem all_how_many (t : Top K mg T) : ∀ k, Fn P w K mg base T k "how_many" 1 (m_how_many k)
  | 0 => fn_zero t.d_how_many rfl
  | k + 1 => fn_mk t.d_how_many sc_how_many (bd_how_many t (all_check_count t k) (allM_at_least t k))
abbrev s_shape_from : Stmt := top 50
abbrev N_shape_from : List Str := ["keys", "rank", "number", "known", "left", "many", "far", "near"]
theorem sc_shape_from : FnScope N_shape_from ["keys", "rank", "number", "known"] (defScope s_shape_from) := ⟨rfl, rfl, rfl, by decide +kernel, rfl, by decide +kernel, by decide +kernel⟩
theorem bd_shape_from {k : Nat} {c_many_of : List SV → R} {c_parted : List SV → R} {c_shape_from : List SV → R} (t : Top K mg T) (h_many_of : Fn P w K mg base T k "many_of" 3 c_many_of) (h_parted : Fn P w K mg base T k "parted" 3 c_parted) (h_shape_from : Fn P w K mg base T k "shape_from" 4 c_shape_from) : Bd P w K mg base T k N_shape_from "shape_from" s_shape_from (b_shape_from c_many_of c_parted c_shape_from) := by
  intro f cdv A outer s0 H E B hr C po tk
  unfold b_shape_from p_shape_from_3 p_shape_from_2 p_shape_from_1
  exact vss_cons (vs_while WF po (vt_cm c_ge (ve_var 2) (ve_callF h_many_of hr rfl C (va_cons (ve_var 0) (va_cons (ve_var 1) (va_cons (ve_var 3) (va_nil)))))) (vss_cons (vs_sub 2 C (ve_callF h_many_of hr rfl C (va_cons (ve_var 0) (va_cons (ve_var 1) (va_cons (ve_var 3) (va_nil)))))) (vss_one (vs_add 1 C (ve_int))))) (vss_cons (vs_if (vt_cm (c_eq C) (ve_var 0) (ve_int)) (vss_one (vs_ret (ve_tup (va_nil)))) (vss_nil)) (vss_cons (vs_for C po (vi_list (ve_callF h_parted hr rfl C (va_cons (ve_var 0) (va_cons (ve_var 1) (va_cons (ve_var 3) (va_nil)))))) tr_2 (pg_tup rfl (pgs_cons (pg_name (i := 4) C.nd rfl (by first | exact Or.inl rfl | exact Or.inr rfl)) (pgs_cons (pg_name (i := 5) C.nd rfl (by first | exact Or.inl rfl | exact Or.inr rfl)) (pgs_nil)))) (vss_cons (vs_if (vt_cm c_lt (ve_var 2) (ve_var 5)) (vss_cons (vs_set 6 C (ve_callF h_many_of hr rfl C (va_cons (ve_sub (ve_sub (ve_var 0) (ve_int)) (ve_var 4)) (va_cons (ve_sub (ve_var 1) (ve_int)) (va_cons (ve_var 3) (va_nil)))))) (vss_cons (vs_set 7 C (ve_callF h_shape_from hr rfl C (va_cons (ve_var 4) (va_cons (ve_sub (ve_var 1) (ve_int)) (va_cons (ve_fdivW (ve_var 2) (ve_var 6)) (va_cons (ve_var 3) (va_nil))))))) (vss_one (vs_ret (ve_tup (va_cons (ve_var 7) (va_cons (ve_int) (va_cons (ve_callF h_shape_from hr rfl C (va_cons (ve_sub (ve_sub (ve_var 0) (ve_int)) (ve_var 4)) (va_cons (ve_sub (ve_var 1) (ve_int)) (va_cons (ve_mod (ve_var 2) (ve_var 6)) (va_cons (ve_var 3) (va_nil)))))) (va_nil))))))))) (vss_nil)) (vss_one (vs_sub 2 C (ve_var 5))))) (vss_one (vs_ret (ve_tup (va_nil))))))
theorem all_shape_from (t : Top K mg T) : ∀ k, Fn P w K mg base T k "shape_from" 4 (m_shape_from k)
  | 0 => fn_zero t.d_shape_from rfl
  | k + 1 => fn_mk t.d_shape_from sc_shape_from (bd_shape_from t (all_many_of t k) (all_parted t k) (all_shape_from t k))
theorem allM_shape_from (t : Top K mg T) : ∀ k, FnM P w K mg base T k "shape_from" 4 (m_shape_from k)
  | 0 => fnM_zero t.d_shape_from rfl
  | k + 1 => fnM_mk t.d_shape_from sc_shape_from fun me => bd_shape_from (t.tab me) (all_many_of (t.tab me) k) (all_parted (t.tab me) k) (all_shape_from (t.tab me) k)
abbrev s_shape_by : Stmt := top 51
abbrev N_shape_by : List Str := ["keys", "number", "known"]
theorem sc_shape_by : FnScope N_shape_by ["keys", "number"] (defScope s_shape_by) := ⟨rfl, rfl, rfl, by decide +kernel, rfl, by decide +kernel, by decide +kernel⟩
theorem bd_shape_by {k : Nat} {c_check_count : List SV → R} {c_is_key : List SV → R} {c_at_least : List SV → R} {c_shape_from : List SV → R} (t : Top K mg T) (h_check_count : Fn P w K mg base T k "check_count" 1 c_check_count) (hM_check_count : ∀ me : Addr, Fn P w K mg base { T with me := some me } k "check_count" 1 c_check_count) (h_is_key : Fn P w K mg base T k "is_key" 1 c_is_key) (hM_is_key : ∀ me : Addr, Fn P w K mg base { T with me := some me } k "is_key" 1 c_is_key) (h_at_least : Fn P w K mg base T k "at_least" 3 c_at_least) (hM_at_least : ∀ me : Addr, Fn P w K mg base { T with me := some me } k "at_least" 3 c_at_least) (h_shape_from : Fn P w K mg base T k "shape_from" 4 c_shape_from) (hM_shape_from : ∀ me : Addr, Fn P w K mg base { T with me := some me } k "shape_from" 4 c_shape_from) : Bd P w K mg base T k N_shape_by "shape_by" s_shape_by (b_shape_by c_check_count c_is_key c_at_least c_shape_from) := by
  intro f cdv A outer s0 H E B hr C po tk
  unfold b_shape_by
  exact vss_cons (vs_expr (ve_callF h_check_count hr rfl C (va_cons (ve_var 0) (va_nil)))) (vss_tab 2 C (fun me => have C := C.tab me; have t := t.tab me; have h_check_count := hM_check_count me; have h_is_key := hM_is_key me; have h_at_least := hM_at_least me; have h_shape_from := hM_shape_from me;  vss_cons (vs_if (vt_w (vw_or (vt_not (vt_val (ve_callF h_is_key hr rfl C (va_cons (ve_var 1) (va_nil))))) (vw_or1 (vt_not (vt_chn c_le c_lt (ve_int) (ve_var 1) (ve_callF h_at_least hr rfl C (va_cons (ve_var 0) (va_cons (ve_int) (va_cons (ve_var 2) (va_nil)))))))))) (vss_one (vs_raiseE C tk t.e_BadNumber rfl)) (vss_nil)) (vss_one (vs_ret (ve_callF h_shape_from hr rfl C (va_cons (ve_var 0) (va_cons (ve_int) (va_cons (ve_var 1) (va_cons (ve_var 2) (va_nil))))))))))
theorem all_shape_by (t : Top K mg T) : ∀ k, Fn P w K mg base T k "shape_by" 2 (m_shape_by k)
  | 0 => fn_zero t.d_shape_by rfl
  | k + 1 => fn_mk t.d_shape_by sc_shape_by (bd_shape_by t (all_check_count t k) (fun me => all_check_count (t.tab me) k) (all_is_key t k) (fun me => all_is_key (t.tab me) k) (all_at_least t k) (fun me => all_at_least (t.tab me) k) (all_shape_from t k) (fun me => all_shape_from (t.tab me) k))
abbrev s_number_in : Stmt := top 52
abbrev N_number_in : List Str := ["heap", "rank", "known", "keys", "mine", "found", "left", "many", "far", "here"]
theorem sc_number_in : FnScope N_number_in ["heap", "rank", "known"] (defScope s_number_in) := ⟨rfl, rfl, rfl, by decide +kernel, rfl, by decide +kernel, by decide +kernel⟩
theorem bd_number_in {k : Nat} {c_size_of : List SV → R} {c_rank_of : List SV → R} {c_many_of : List SV → R} {c_parted : List SV → R} {c_number_in : List SV → R} (t : Top K mg T) (h_size_of : Fn P w K mg base T k "size_of" 1 c_size_of) (h_rank_of : Fn P w K mg base T k "rank_of" 1 c_rank_of) (h_many_of : Fn P w K mg base T k "many_of" 3 c_many_of) (h_parted : Fn P w K mg base T k "parted" 3 c_parted) (h_number_in : Fn P w K mg base T k "number_in" 3 c_number_in) : Bd P w K mg base T k N_number_in "number_in" s_number_in (b_number_in c_size_of c_rank_of c_many_of c_parted c_number_in) := by
  intro f cdv A outer s0 H E B hr C po tk
  unfold b_number_in p_number_in_1
  exact vss_cons (vs_unp (ve_tup (va_cons (ve_callF h_size_of hr rfl C (va_cons (ve_var 0) (va_nil))) (va_cons (ve_callF h_rank_of hr rfl C (va_cons (ve_var 0) (va_nil))) (va_nil)))) tr_2 (pg_tup rfl (pgs_cons (pg_name (i := 3) C.nd rfl (by first | exact Or.inl rfl | exact Or.inr rfl)) (pgs_cons (pg_name (i := 4) C.nd rfl (by first | exact Or.inl rfl | exact Or.inr rfl)) (pgs_nil))))) (vss_cons (vs_set 5 C (ve_sum C ⟨rfl, t.b_sum⟩ (ve_lc (own := [("here", 9)]) C (vi_range2 ⟨rfl, t.b_range⟩ (va_cons (ve_var 1) (va_cons (ve_var 4) (va_nil)))) (blkOk_by (N := N_number_in) (sc := defScope s_number_in) (by decide +kernel)) tr_name (fun _ _ _ _ _ => pg_name (i := 9) C.nd rfl (by first | exact Or.inl rfl | exact Or.inr rfl)) (fun _ _ _ _ _ => vts_nil) (fun _ _ _ _ _ => ve_callF h_many_of hr rfl C.blk (va_cons (ve_var 3) (va_cons (ve_var 9) (va_cons (ve_var 2) (va_nil)))))))) (vss_cons (vs_if (vt_cm (c_eq C) (ve_var 0) (ve_tup (va_nil))) (vss_one (vs_ret (ve_var 5))) (vss_nil)) (vss_cons (vs_for C po (vi_list (ve_callF h_parted hr rfl C (va_cons (ve_var 3) (va_cons (ve_var 4) (va_cons (ve_var 2) (va_nil)))))) tr_2 (pg_tup rfl (pgs_cons (pg_name (i := 6) C.nd rfl (by first | exact Or.inl rfl | exact Or.inr rfl)) (pgs_cons (pg_name (i := 7) C.nd rfl (by first | exact Or.inl rfl | exact Or.inr rfl)) (pgs_nil)))) (vss_one (vs_if (vt_cm c_lt (ve_var 6) (ve_callF h_size_of hr rfl C (va_cons (ve_ix (ve_var 0) (ve_int)) (va_nil)))) (vss_one (vs_add 5 C (ve_var 7))) (vss_nil)))) (vss_cons (vs_set 8 C (ve_callF h_many_of hr rfl C (va_cons (ve_callF h_size_of hr rfl C (va_cons (ve_ix (ve_var 0) (ve_int)) (va_nil))) (va_cons (ve_sub (ve_var 4) (ve_int)) (va_cons (ve_var 2) (va_nil)))))) (vss_one (vs_ret (ve_add (ve_add (ve_var 5) (ve_mul (ve_callF h_number_in hr rfl C (va_cons (ve_ix (ve_var 0) (ve_int)) (va_cons (ve_sub (ve_var 4) (ve_int)) (va_cons (ve_var 2) (va_nil))))) (ve_var 8))) (ve_callF h_number_in hr rfl C (va_cons (ve_ix (ve_var 0) (ve_int)) (va_cons (ve_sub (ve_var 4) (ve_int)) (va_cons (ve_var 2) (va_nil))))))))))))
theorem all_number_in (t : Top K mg T) : ∀ k, Fn P w K mg base T k "number_in" 3 (m_number_in k)
  | 0 => fn_zero t.d_number_in rfl
  | k + 1 => fn_mk t.d_number_in sc_number_in (bd_number_in t (all_size_of t k) (all_rank_of t k) (all_many_of t k) (all_parted t k) (all_number_in t k))
theorem allM_number_in (t : Top K mg T) : ∀ k, FnM P w K mg base T k "number_in" 3 (m_number_in k)
  | 0 => fnM_zero t.d_number_in rfl
  | k + 1 => fnM_mk t.d_number_in sc_number_in fun me => bd_number_in (t.tab me) (all_size_of (t.tab me) k) (all_rank_of (t.tab me) k) (all_many_of (t.tab me) k) (all_parted (t.tab me) k) (all_number_in (t.tab me) k)
abbrev s_number_of : Stmt := top 53
abbrev N_number_of : List Str := ["heap"]
theorem sc_number_of : FnScope N_number_of ["heap"] (defScope s_number_of) := ⟨rfl, rfl, rfl, by decide +kernel, rfl, by decide +kernel, by decide +kernel⟩
theorem bd_number_of {k : Nat} {c_check_heap : List SV → R} {c_check_leaning : List SV → R} {c_number_in : List SV → R} (t : Top K mg T) (h_check_heap : Fn P w K mg base T k "check_heap" 1 c_check_heap) (h_check_leaning : Fn P w K mg base T k "check_leaning" 1 c_check_leaning) (h_number_in : FnM P w K mg base T k "number_in" 3 c_number_in) : Bd P w K mg base T k N_number_of "number_of" s_number_of (b_number_of c_check_heap c_check_leaning c_number_in) := by
  intro f cdv A outer s0 H E B hr C po tk
  unfold b_number_of
  exact vss_cons (vs_expr (ve_callF h_check_heap hr rfl C (va_cons (ve_var 0) (va_nil)))) (vss_cons (vs_expr (ve_callF h_check_leaning hr rfl C (va_cons (ve_var 0) (va_nil)))) (vss_one (vs_ret (ve_callM h_number_in hr rfl C (vm_cons (ve_var 0) (vm_cons (ve_int) (vm_last)))))))
theorem all_number_of (t : Top K mg T) : ∀ k, Fn P w K mg base T k "number_of" 1 (m_number_of k)
  | 0 => fn_zero t.d_number_of rfl
  | k + 1 => fn_mk t.d_number_of sc_number_of (bd_number_of t (all_check_heap t k) (all_check_leaning t k) (allM_number_in t k))
abbrev s_order_of : Stmt := top 55
abbrev N_order_of : List Str := ["tree"]
theorem sc_order_of : FnScope N_order_of ["tree"] (defScope s_order_of) := ⟨rfl, rfl, rfl, by decide +kernel, rfl, by decide +kernel, by decide +kernel⟩
theorem bd_order_of {k : Nat} (t : Top K mg T) : Bd P w K mg base T k N_order_of "order_of" s_order_of (b_order_of) := by
  intro f cdv A outer s0 H E B hr C po tk
  unfold b_order_of
  exact vss_one (vs_ret (ve_len ⟨rfl, t.b_len⟩ (ve_ix (ve_var 0) (ve_int))))
theorem all_order_of (t : Top K mg T) : ∀ k, Fn P w K mg base T k "order_of" 1 (m_order_of k)
  | 0 => fn_zero t.d_order_of rfl
  | k + 1 => fn_mk t.d_order_of sc_order_of (bd_order_of t)
abbrev s_is_tree : Stmt := top 56
abbrev N_is_tree : List Str := ["thing", "order", "at", "child"]
theorem sc_is_tree : FnScope N_is_tree ["thing", "order"] (defScope s_is_tree) := ⟨rfl, rfl, rfl, by decide +kernel, rfl, by decide +kernel, by decide +kernel⟩
theorem bd_is_tree {k : Nat} {c_is_key : List SV → R} {c_is_tree : List SV → R} (t : Top K mg T) (h_is_key : Fn P w K mg base T k "is_key" 1 c_is_key) (h_is_tree : Fn P w K mg base T k "is_tree" 2 c_is_tree) : Bd P w K mg base T k N_is_tree "is_tree" s_is_tree (b_is_tree c_is_key c_is_tree) := by
  intro f cdv A outer s0 H E B hr C po tk
  unfold b_is_tree p_is_tree_1
  exact vss_cons (vs_if (vt_w (vw_or (vt_not (vt_val (ve_isi ty_tuple ⟨rfl, t.b_isinstance⟩ ⟨rfl, t.b_tuple⟩ (by decide +kernel) (ve_var 0)))) (vw_or (vt_cm (c_ne C) (ve_len ⟨rfl, t.b_len⟩ (ve_var 0)) (ve_int)) (vw_or (vt_not (vt_val (ve_callF h_is_key hr rfl C (va_cons (ve_ix (ve_var 0) (ve_int)) (va_nil))))) (vw_or1 (vt_not (vt_val (ve_isi ty_list ⟨rfl, t.b_isinstance⟩ ⟨rfl, t.b_list⟩ (by decide +kernel) (ve_ix (ve_var 0) (ve_int)))))))))) (vss_one (vs_ret (ve_bl))) (vss_nil)) (vss_cons (vs_if (vt_cm (c_ne C) (ve_len ⟨rfl, t.b_len⟩ (ve_ix (ve_var 0) (ve_int))) (ve_var 1)) (vss_one (vs_ret (ve_bl))) (vss_nil)) (vss_cons (vs_for C po (vi_enum ⟨rfl, t.b_enumerate⟩ (va_cons (ve_ix (ve_var 0) (ve_int)) (va_nil))) tr_2 (pg_tup rfl (pgs_cons (pg_name (i := 2) C.nd rfl (by first | exact Or.inl rfl | exact Or.inr rfl)) (pgs_cons (pg_name (i := 3) C.nd rfl (by first | exact Or.inl rfl | exact Or.inr rfl)) (pgs_nil)))) (vss_one (vs_if (vt_w (vw_or (vt_not (vt_val (ve_callF h_is_tree hr rfl C (va_cons (ve_var 3) (va_cons (ve_sub (ve_sub (ve_var 1) (ve_int)) (ve_var 2)) (va_nil)))))) (vw_or1 (vt_cm c_lt (ve_ix (ve_var 3) (ve_int)) (ve_ix (ve_var 0) (ve_int)))))) (vss_one (vs_ret (ve_bl))) (vss_nil)))) (vss_one (vs_ret (ve_bl)))))
theorem all_is_tree (t : Top K mg T) : ∀ k, Fn P w K mg base T k "is_tree" 2 (m_is_tree k)
  | 0 => fn_zero t.d_is_tree rfl
  | k + 1 => fn_mk t.d_is_tree sc_is_tree (bd_is_tree t (all_is_key t k) (all_is_tree t k))
abbrev s_is_pile : Stmt := top 57
abbrev N_is_pile : List Str := ["thing", "last", "many", "tree", "order"]
theorem sc_is_pile : FnScope N_is_pile ["thing"] (defScope s_is_pile) := ⟨rfl, rfl, rfl, by decide +kernel, rfl, by decide +kernel, by decide +kernel⟩
theorem bd_is_pile {k : Nat} {c_order_of : List SV → R} {c_is_tree : List SV → R} (t : Top K mg T) (h_order_of : Fn P w K mg base T k "order_of" 1 c_order_of) (h_is_tree : Fn P w K mg base T k "is_tree" 2 c_is_tree) : Bd P w K mg base T k N_is_pile "is_pile" s_is_pile (b_is_pile c_order_of c_is_tree) := by
  obtain ⟨tk_MOST, h_MOST⟩ := t.k_MOST
  intro f cdv A outer s0 H E B hr C po tk
  unfold b_is_pile p_is_pile_1
  exact vss_cons (vs_if (vt_not (vt_val (ve_isi ty_list ⟨rfl, t.b_isinstance⟩ ⟨rfl, t.b_list⟩ (by decide +kernel) (ve_var 0)))) (vss_one (vs_ret (ve_bl))) (vss_nil)) (vss_cons (vs_unp (ve_tup (va_cons (ve_neg (ve_int)) (va_cons (ve_int) (va_nil)))) tr_2 (pg_tup rfl (pgs_cons (pg_name (i := 1) C.nd rfl (by first | exact Or.inl rfl | exact Or.inr rfl)) (pgs_cons (pg_name (i := 2) C.nd rfl (by first | exact Or.inl rfl | exact Or.inr rfl)) (pgs_nil))))) (vss_cons (vs_for C po (vi_list (ve_var 0)) tr_name (pg_name (i := 3) C.nd rfl (by first | exact Or.inl rfl | exact Or.inr rfl)) (vss_cons (vs_if (vt_w (vw_or (vt_not (vt_val (ve_isi ty_tuple ⟨rfl, t.b_isinstance⟩ ⟨rfl, t.b_tuple⟩ (by decide +kernel) (ve_var 3)))) (vw_or (vt_cm (c_ne C) (ve_len ⟨rfl, t.b_len⟩ (ve_var 3)) (ve_int)) (vw_or1 (vt_not (vt_val (ve_isi ty_list ⟨rfl, t.b_isinstance⟩ ⟨rfl, t.b_list⟩ (by decide +kernel) (ve_ix (ve_var 3) (ve_int))))))))) (vss_one (vs_ret (ve_bl))) (vss_nil)) (vss_cons (vs_set 4 C (ve_callF h_order_of hr rfl C (va_cons (ve_var 3) (va_nil)))) (vss_cons (vs_if (vt_w (vw_or (vt_cm c_le (ve_var 4) (ve_var 1)) (vw_or (vt_cm c_gt (ve_var 4) (ve_int)) (vw_or1 (vt_not (vt_val (ve_callF h_is_tree hr rfl C (va_cons (ve_var 3) (va_cons (ve_var 4) (va_nil)))))))))) (vss_one (vs_ret (ve_bl))) (vss_nil)) (vss_one (vs_par2 1 2 false false C (ve_var 4) (ve_add (ve_var 2) (ve_shl (ve_int) (ve_var 4))))))))) (vss_one (vs_ret (ve_cm c_le (ve_var 2) (ve_gint rfl h_MOST))))))
theorem all_is_pile (t : Top K mg T) : ∀ k, Fn P w K mg base T k "is_pile" 1 (m_is_pile k)
  | 0 => fn_zero t.d_is_pile rfl
  | k + 1 => fn_mk t.d_is_pile sc_is_pile (bd_is_pile t (all_order_of t k) (all_is_tree t k))
abbrev s_check_pile : Stmt := top 58
abbrev N_check_pile : List Str := ["pile"]
theorem sc_check_pile : FnScope N_check_pile ["pile"] (defScope s_check_pile) := ⟨rfl, rfl, rfl, by decide +kernel, rfl, by decide +kernel, by decide +kernel⟩
theorem bd_check_pile {k : Nat} {c_is_pile : List SV → R} (t : Top K mg T) (h_is_pile : Fn P w K mg base T k "is_pile" 1 c_is_pile) : Bd P w K mg base T k N_check_pile "check_pile" s_check_pile (b_check_pile c_is_pile) := by
  intro f cdv A outer s0 H E B hr C po tk
  unfold b_check_pile
  exact vss_one (vs_if (vt_not (vt_val (ve_callF h_is_pile hr rfl C (va_cons (ve_var 0) (va_nil))))) (vss_one (vs_raiseE C tk t.e_BadPile rfl)) (vss_nil))
theorem all_check_pile (t : Top K mg T) : ∀ k, Fn P w K mg base T k "check_pile" 1 (m_check_pile k)
  | 0 => fn_zero t.d_check_pile rfl
  | k + 1 => fn_mk t.d_check_pile sc_check_pile (bd_check_pile t (all_is_pile t k))
abbrev s_count_of : Stmt := top 59
abbrev N_count_of : List Str := ["pile", "tree"]
theorem sc_count_of : FnScope N_count_of ["pile"] (defScope s_count_of) := ⟨rfl, rfl, rfl, by decide +kernel, rfl, by decide +kernel, by decide +kernel⟩
theorem bd_count_of {k : Nat} {c_order_of : List SV → R} (t : Top K mg T) (h_order_of : Fn P w K mg base T k "order_of" 1 c_order_of) : Bd P w K mg base T k N_count_of "count_of" s_count_of (b_count_of c_order_of) := by
  intro f cdv A outer s0 H E B hr C po tk
  unfold b_count_of
  exact vss_one (vs_ret (ve_sum C ⟨rfl, t.b_sum⟩ (ve_lc (own := [("tree", 1)]) C (vi_list (ve_var 0)) (blkOk_by (N := N_count_of) (sc := defScope s_count_of) (by decide +kernel)) tr_name (fun _ _ _ _ _ => pg_name (i := 1) C.nd rfl (by first | exact Or.inl rfl | exact Or.inr rfl)) (fun _ _ _ _ _ => vts_nil) (fun _ _ _ _ _ => ve_shl (ve_int) (ve_callF h_order_of hr rfl C.blk (va_cons (ve_var 1) (va_nil)))))))
theorem all_count_of (t : Top K mg T) : ∀ k, Fn P w K mg base T k "count_of" 1 (m_count_of k)
  | 0 => fn_zero t.d_count_of rfl
  | k + 1 => fn_mk t.d_count_of sc_count_of (bd_count_of t (all_order_of t k))
abbrev s_copied : Stmt := top 60
abbrev N_copied : List Str := ["tree", "child"]
theorem sc_copied : FnScope N_copied ["tree"] (defScope s_copied) := ⟨rfl, rfl, rfl, by decide +kernel, rfl, by decide +kernel, by decide +kernel⟩
theorem bd_copied {k : Nat} {c_copied : List SV → R} (t : Top K mg T) (h_copied : Fn P w K mg base T k "copied" 1 c_copied) : Bd P w K mg base T k N_copied "copied" s_copied (b_copied c_copied) := by
  intro f cdv A outer s0 H E B hr C po tk
  unfold b_copied
  exact vss_one (vs_ret (ve_tup (va_cons (ve_ix (ve_var 0) (ve_int)) (va_cons (ve_lc (own := [("child", 1)]) C (vi_list (ve_ix (ve_var 0) (ve_int))) (blkOk_by (N := N_copied) (sc := defScope s_copied) (by decide +kernel)) tr_name (fun _ _ _ _ _ => pg_name (i := 1) C.nd rfl (by first | exact Or.inl rfl | exact Or.inr rfl)) (fun _ _ _ _ _ => vts_nil) (fun _ _ _ _ _ => ve_callF h_copied hr rfl C.blk (va_cons (ve_var 1) (va_nil)))) (va_nil)))))
theorem all_copied (t : Top K mg T) : ∀ k, Fn P w K mg base T k "copied" 1 (m_copied k)
  | 0 => fn_zero t.d_copied rfl
  | k + 1 => fn_mk t.d_copied sc_copied (bd_copied t (all_copied t k))
abbrev s_linked : Stmt := top 61
abbrev N_linked : List Str := ["one", "other"]
theorem sc_linked : FnScope N_linked ["one", "other"] (defScope s_linked) := ⟨rfl, rfl, rfl, by decide +kernel, rfl, by decide +kernel, by decide +kernel⟩
theorem bd_linked {k : Nat} (t : Top K mg T) : Bd P w K mg base T k N_linked "linked" s_linked (b_linked) := by
  intro f cdv A outer s0 H E B hr C po tk
  unfold b_linked
  exact vss_cons (vs_if (vt_cm c_lt (ve_ix (ve_var 1) (ve_int)) (ve_ix (ve_var 0) (ve_int))) (vss_one (vs_par2 0 1 false false C (ve_var 1) (ve_var 0))) (vss_nil)) (vss_one (vs_ret (ve_tup (va_cons (ve_ix (ve_var 0) (ve_int)) (va_cons (ve_add (ve_lst (va_cons (ve_var 1) (va_nil))) (ve_ix (ve_var 0) (ve_int))) (va_nil))))))
theorem all_linked (t : Top K mg T) : ∀ k, Fn P w K mg base T k "linked" 2 (m_linked k)
  | 0 => fn_zero t.d_linked rfl
  | k + 1 => fn_mk t.d_linked sc_linked (bd_linked t)
abbrev s_joinP : Stmt := top 62
abbrev N_joinP : List Str := ["one", "other", "found", "carry", "links", "high", "order", "some", "tree"]
theorem sc_joinP : FnScope N_joinP ["one", "other"] (defScope s_joinP) := ⟨rfl, rfl, rfl, by decide +kernel, rfl, by decide +kernel, by decide +kernel⟩
theorem bd_joinP {k : Nat} {c_order_of : List SV → R} {c_linked : List SV → R} (t : Top K mg T) (h_order_of : Fn P w K mg base T k "order_of" 1 c_order_of) (h_linked : Fn P w K mg base T k "linked" 2 c_linked) : Bd P w K mg base T k N_joinP "joined_of" s_joinP (b_joinP c_order_of c_linked) := by
  intro f cdv A outer s0 H E B hr C po tk
  unfold b_joinP p_joinP_1
  exact vss_cons (vs_par3 2 3 4 true false false C (ve_lst (va_nil)) (ve_lst (va_nil)) (ve_int)) (vss_cons (vs_set 5 C (ve_max1 C ⟨rfl, t.b_max⟩ (ve_add (ve_lc (own := [("tree", 8)]) C (vi_list (ve_add (ve_var 0) (ve_var 1))) (blkOk_by (N := N_joinP) (sc := defScope s_joinP) (by decide +kernel)) tr_name (fun _ _ _ _ _ => pg_name (i := 8) C.nd rfl (by first | exact Or.inl rfl | exact Or.inr rfl)) (fun _ _ _ _ _ => vts_nil) (fun _ _ _ _ _ => ve_callF h_order_of hr rfl C.blk (va_cons (ve_var 8) (va_nil)))) (ve_lst (va_cons (ve_neg (ve_int)) (va_nil)))))) (vss_cons (vs_for C po (vi_range1 ⟨rfl, t.b_range⟩ (va_cons (ve_add (ve_var 5) (ve_int)) (va_nil))) tr_name (pg_name (i := 6) C.nd rfl (by first | exact Or.inl rfl | exact Or.inr rfl)) (vss_cons (vs_set 7 C (ve_add (ve_lc (own := [("tree", 8)]) C (vi_list (ve_add (ve_var 0) (ve_var 1))) (blkOk_by (N := N_joinP) (sc := defScope s_joinP) (by decide +kernel)) tr_name (fun _ _ _ _ _ => pg_name (i := 8) C.nd rfl (by first | exact Or.inl rfl | exact Or.inr rfl)) (fun _ _ _ _ _ => vts_one (vt_cm (c_eq C.blk) (ve_callF h_order_of hr rfl C.blk (va_cons (ve_var 8) (va_nil))) (ve_var 6))) (fun _ _ _ _ _ => ve_var 8)) (ve_var 3))) (vss_cons (vs_set 3 C (ve_lst (va_nil))) (vss_cons (vs_if (vt_cm c_gt (ve_len ⟨rfl, t.b_len⟩ (ve_var 7)) (ve_int)) (vss_cons (vs_set 3 C (ve_lst (va_cons (ve_callF h_linked hr rfl C (va_cons (ve_ix (ve_var 7) (ve_int)) (va_cons (ve_ix (ve_var 7) (ve_int)) (va_nil)))) (va_nil)))) (vss_cons (vs_set 7 C (ve_slL (ve_var 7) (ve_int))) (vss_one (vs_add 4 C (ve_int))))) (vss_nil)) (vss_one (vs_ext 2 (ve_var 7))))))) (vss_one (vs_frz 2 (vs_ret (ve_tup (va_cons (ve_var 2) (va_cons (ve_var 4) (va_nil)))))))))
theorem all_joinP (t : Top K mg T) : ∀ k, Fn P w K mg base T k "joined_of_piles" 2 (m_joinP k)
  | 0 => fn_zero t.d_joinP rfl
  | k + 1 => fn_mk t.d_joinP sc_joinP (bd_joinP t (all_order_of t k) (all_linked t k))
abbrev s_keys_in : Stmt := top 64
abbrev N_keys_in : List Str := ["tree", "found", "child"]
theorem sc_keys_in : FnScope N_keys_in ["tree"] (defScope s_keys_in) := ⟨rfl, rfl, rfl, by decide +kernel, rfl, by decide +kernel, by decide +kernel⟩
theorem bd_keys_in {k : Nat} {c_keys_in : List SV → R} (t : Top K mg T) (h_keys_in : Fn P w K mg base T k "keys_in" 1 c_keys_in) : Bd P w K mg base T k N_keys_in "keys_in" s_keys_in (b_keys_in c_keys_in) := by
  intro f cdv A outer s0 H E B hr C po tk
  unfold b_keys_in p_keys_in_1
  exact vss_cons (vs_own 1 C (ve_lst (va_cons (ve_ix (ve_var 0) (ve_int)) (va_nil)))) (vss_cons (vs_for C po (vi_list (ve_ix (ve_var 0) (ve_int))) tr_name (pg_name (i := 2) C.nd rfl (by first | exact Or.inl rfl | exact Or.inr rfl)) (vss_one (vs_ext 1 (ve_callF h_keys_in hr rfl C (va_cons (ve_var 2) (va_nil)))))) (vss_one (vs_retO 1)))
theorem all_keys_in (t : Top K mg T) : ∀ k, Fn P w K mg base T k "keys_in" 1 (m_keys_in k)
  | 0 => fn_zero t.d_keys_in rfl
  | k + 1 => fn_mk t.d_keys_in sc_keys_in (bd_keys_in t (all_keys_in t k))
abbrev s_pile_keys : Stmt := top 65
abbrev N_pile_keys : List Str := ["pile", "found", "tree"]
theorem sc_pile_keys : FnScope N_pile_keys ["pile"] (defScope s_pile_keys) := ⟨rfl, rfl, rfl, by decide +kernel, rfl, by decide +kernel, by decide +kernel⟩
theorem bd_pile_keys {k : Nat} {c_check_pile : List SV → R} {c_keys_in : List SV → R} (t : Top K mg T) (h_check_pile : Fn P w K mg base T k "check_pile" 1 c_check_pile) (h_keys_in : Fn P w K mg base T k "keys_in" 1 c_keys_in) : Bd P w K mg base T k N_pile_keys "pile_keys" s_pile_keys (b_pile_keys c_check_pile c_keys_in) := by
  intro f cdv A outer s0 H E B hr C po tk
  unfold b_pile_keys p_pile_keys_1
  exact vss_cons (vs_expr (ve_callF h_check_pile hr rfl C (va_cons (ve_var 0) (va_nil)))) (vss_cons (vs_own 1 C (ve_lst (va_nil))) (vss_cons (vs_for C po (vi_list (ve_var 0)) tr_name (pg_name (i := 2) C.nd rfl (by first | exact Or.inl rfl | exact Or.inr rfl)) (vss_one (vs_ext 1 (ve_callF h_keys_in hr rfl C (va_cons (ve_var 2) (va_nil)))))) (vss_one (vs_frz 1 (vs_ret (ve_sorted ⟨rfl, t.b_sorted⟩ (ve_var 1)))))))
theorem all_pile_keys (t : Top K mg T) : ∀ k, Fn P w K mg base T k "pile_keys" 1 (m_pile_keys k)
  | 0 => fn_zero t.d_pile_keys rfl
  | k + 1 => fn_mk t.d_pile_keys sc_pile_keys (bd_pile_keys t (all_check_pile t k) (all_keys_in t k))
abbrev s_pile_join : Stmt := top 66
abbrev N_pile_join : List Str := ["one", "other", "tree"]
theorem sc_pile_join : FnScope N_pile_join ["one", "other"] (defScope s_pile_join) := ⟨rfl, rfl, rfl, by decide +kernel, rfl, by decide +kernel, by decide +kernel⟩
theorem bd_pile_join {k : Nat} {c_check_pile : List SV → R} {c_count_of : List SV → R} {c_copied : List SV → R} {c_joinP : List SV → R} (t : Top K mg T) (h_check_pile : Fn P w K mg base T k "check_pile" 1 c_check_pile) (h_count_of : Fn P w K mg base T k "count_of" 1 c_count_of) (h_copied : Fn P w K mg base T k "copied" 1 c_copied) (h_joinP : Fn P w K mg base T k "joined_of_piles" 2 c_joinP) : Bd P w K mg base T k N_pile_join "pile_join" s_pile_join (b_pile_join c_check_pile c_count_of c_copied c_joinP) := by
  obtain ⟨tk_MOST, h_MOST⟩ := t.k_MOST
  intro f cdv A outer s0 H E B hr C po tk
  unfold b_pile_join
  exact vss_cons (vs_expr (ve_callF h_check_pile hr rfl C (va_cons (ve_var 0) (va_nil)))) (vss_cons (vs_expr (ve_callF h_check_pile hr rfl C (va_cons (ve_var 1) (va_nil)))) (vss_cons (vs_if (vt_cm c_gt (ve_add (ve_callF h_count_of hr rfl C (va_cons (ve_var 0) (va_nil))) (ve_callF h_count_of hr rfl C (va_cons (ve_var 1) (va_nil)))) (ve_gint rfl h_MOST)) (vss_one (vs_raiseE C tk t.e_TooMany rfl)) (vss_nil)) (vss_one (vs_ret (ve_callF h_joinP hr rfl C (va_cons (ve_lc (own := [("tree", 2)]) C (vi_list (ve_var 0)) (blkOk_by (N := N_pile_join) (sc := defScope s_pile_join) (by decide +kernel)) tr_name (fun _ _ _ _ _ => pg_name (i := 2) C.nd rfl (by first | exact Or.inl rfl | exact Or.inr rfl)) (fun _ _ _ _ _ => vts_nil) (fun _ _ _ _ _ => ve_callF h_copied hr rfl C.blk (va_cons (ve_var 2) (va_nil)))) (va_cons (ve_lc (own := [("tree", 2)]) C (vi_list (ve_var 1)) (blkOk_by (N := N_pile_join) (sc := defScope s_pile_join) (by decide +kernel)) tr_name (fun _ _ _ _ _ => pg_name (i := 2) C.nd rfl (by first | exact Or.inl rfl | exact Or.inr rfl)) (fun _ _ _ _ _ => vts_nil) (fun _ _ _ _ _ => ve_callF h_copied hr rfl C.blk (va_cons (ve_var 2) (va_nil)))) (va_nil))))))))
theorem all_pile_join (t : Top K mg T) : ∀ k, Fn P w K mg base T k "pile_join" 2 (m_pile_join k)
  | 0 => fn_zero t.d_pile_join rfl
  | k + 1 => fn_mk t.d_pile_join sc_pile_join (bd_pile_join t (all_check_pile t k) (all_count_of t k) (all_copied t k) (all_joinP t k))
abbrev s_pile_put : Stmt := top 67
abbrev N_pile_put : List Str := ["pile", "key", "tree"]
theorem sc_pile_put : FnScope N_pile_put ["pile", "key"] (defScope s_pile_put) := ⟨rfl, rfl, rfl, by decide +kernel, rfl, by decide +kernel, by decide +kernel⟩
theorem bd_pile_put {k : Nat} {c_check_pile : List SV → R} {c_check_key : List SV → R} {c_count_of : List SV → R} {c_copied : List SV → R} {c_joinP : List SV → R} (t : Top K mg T) (h_check_pile : Fn P w K mg base T k "check_pile" 1 c_check_pile) (h_check_key : Fn P w K mg base T k "check_key" 1 c_check_key) (h_count_of : Fn P w K mg base T k "count_of" 1 c_count_of) (h_copied : Fn P w K mg base T k "copied" 1 c_copied) (h_joinP : Fn P w K mg base T k "joined_of_piles" 2 c_joinP) : Bd P w K mg base T k N_pile_put "pile_put" s_pile_put (b_pile_put c_check_pile c_check_key c_count_of c_copied c_joinP) := by
  obtain ⟨tk_MOST, h_MOST⟩ := t.k_MOST
  intro f cdv A outer s0 H E B hr C po tk
  unfold b_pile_put
  exact vss_cons (vs_expr (ve_callF h_check_pile hr rfl C (va_cons (ve_var 0) (va_nil)))) (vss_cons (vs_expr (ve_callF h_check_key hr rfl C (va_cons (ve_var 1) (va_nil)))) (vss_cons (vs_if (vt_cm c_gt (ve_add (ve_callF h_count_of hr rfl C (va_cons (ve_var 0) (va_nil))) (ve_int)) (ve_gint rfl h_MOST)) (vss_one (vs_raiseE C tk t.e_TooMany rfl)) (vss_nil)) (vss_one (vs_ret (ve_callF h_joinP hr rfl C (va_cons (ve_lc (own := [("tree", 2)]) C (vi_list (ve_var 0)) (blkOk_by (N := N_pile_put) (sc := defScope s_pile_put) (by decide +kernel)) tr_name (fun _ _ _ _ _ => pg_name (i := 2) C.nd rfl (by first | exact Or.inl rfl | exact Or.inr rfl)) (fun _ _ _ _ _ => vts_nil) (fun _ _ _ _ _ => ve_callF h_copied hr rfl C.blk (va_cons (ve_var 2) (va_nil)))) (va_cons (ve_lst (va_cons (ve_tup (va_cons (ve_var 1) (va_cons (ve_lst (va_nil)) (va_nil)))) (va_nil))) (va_nil))))))))
theorem all_pile_put (t : Top K mg T) : ∀ k, Fn P w K mg base T k "pile_put" 2 (m_pile_put k)
  | 0 => fn_zero t.d_pile_put rfl
  | k + 1 => fn_mk t.d_pile_put sc_pile_put (bd_pile_put t (all_check_pile t k) (all_check_key t k) (all_count_of t k) (all_copied t k) (all_joinP t k))
abbrev s_pile_take : Stmt := top 68
abbrev N_pile_take : List Str := ["pile", "some", "tops", "at", "found", "links", "tree"]
theorem sc_pile_take : FnScope N_pile_take ["pile"] (defScope s_pile_take) := ⟨rfl, rfl, rfl, by decide +kernel, rfl, by decide +kernel, by decide +kernel⟩
theorem bd_pile_take {k : Nat} {c_check_pile : List SV → R} {c_copied : List SV → R} {c_joinP : List SV → R} (t : Top K mg T) (h_check_pile : Fn P w K mg base T k "check_pile" 1 c_check_pile) (h_copied : Fn P w K mg base T k "copied" 1 c_copied) (h_joinP : Fn P w K mg base T k "joined_of_piles" 2 c_joinP) : Bd P w K mg base T k N_pile_take "pile_take" s_pile_take (b_pile_take c_check_pile c_copied c_joinP) := by
  intro f cdv A outer s0 H E B hr C po tk
  unfold b_pile_take
  exact vss_cons (vs_expr (ve_callF h_check_pile hr rfl C (va_cons (ve_var 0) (va_nil)))) (vss_cons (vs_if (vt_cm (c_eq C) (ve_var 0) (ve_lst (va_nil))) (vss_one (vs_raiseE C tk t.e_Empty rfl)) (vss_nil)) (vss_cons (vs_setLc 1 (own := [("tree", 6)]) C (vi_list (ve_var 0)) (blkOk_by (N := N_pile_take) (sc := defScope s_pile_take) (by decide +kernel)) tr_name (fun _ _ _ _ _ => pg_name (i := 6) C.nd rfl (by first | exact Or.inl rfl | exact Or.inr rfl)) (fun _ _ _ _ _ => vts_nil) (fun _ _ _ _ _ => ve_callF h_copied hr rfl C.blk (va_cons (ve_var 6) (va_nil)))) (vss_cons (vs_setLc 2 (own := [("tree", 6)]) C (vi_list (ve_var 1)) (blkOk_by (N := N_pile_take) (sc := defScope s_pile_take) (by decide +kernel)) tr_name (fun _ _ _ _ _ => pg_name (i := 6) C.nd rfl (by first | exact Or.inl rfl | exact Or.inr rfl)) (fun _ _ _ _ _ => vts_nil) (fun _ _ _ _ _ => ve_ix (ve_var 6) (ve_int))) (vss_cons (vs_set 3 C (ve_index (ve_var 2) (ve_min1 C ⟨rfl, t.b_min⟩ (ve_var 2)))) (vss_cons (vs_unp (ve_callF h_joinP hr rfl C (va_cons (ve_add (ve_slH (ve_var 1) (ve_var 3)) (ve_slL (ve_var 1) (ve_add (ve_var 3) (ve_int)))) (va_cons (ve_rev (ve_ix (ve_ix (ve_var 1) (ve_var 3)) (ve_int))) (va_nil)))) tr_2 (pg_tup rfl (pgs_cons (pg_name (i := 4) C.nd rfl (by first | exact Or.inl rfl | exact Or.inr rfl)) (pgs_cons (pg_name (i := 5) C.nd rfl (by first | exact Or.inl rfl | exact Or.inr rfl)) (pgs_nil))))) (vss_one (vs_ret (ve_tup (va_cons (ve_ix (ve_var 2) (ve_var 3)) (va_cons (ve_var 4) (va_nil)))))))))))
theorem all_pile_take (t : Top K mg T) : ∀ k, Fn P w K mg base T k "pile_take" 1 (m_pile_take k)
  | 0 => fn_zero t.d_pile_take rfl
  | k + 1 => fn_mk t.d_pile_take sc_pile_take (bd_pile_take t (all_check_pile t k) (all_copied t k) (all_joinP t k))
abbrev s_pile_of : Stmt := top 69
abbrev N_pile_of : List Str := ["keys", "found", "links", "key", "more"]
theorem sc_pile_of : FnScope N_pile_of ["keys"] (defScope s_pile_of) := ⟨rfl, rfl, rfl, by decide +kernel, rfl, by decide +kernel, by decide +kernel⟩
theorem bd_pile_of {k : Nat} {c_check_keys : List SV → R} {c_joinP : List SV → R} (t : Top K mg T) (h_check_keys : Fn P w K mg base T k "check_keys" 1 c_check_keys) (h_joinP : Fn P w K mg base T k "joined_of_piles" 2 c_joinP) : Bd P w K mg base T k N_pile_of "pile_of" s_pile_of (b_pile_of c_check_keys c_joinP) := by
  intro f cdv A outer s0 H E B hr C po tk
  unfold b_pile_of p_pile_of_1
  exact vss_cons (vs_expr (ve_callF h_check_keys hr rfl C (va_cons (ve_var 0) (va_nil)))) (vss_cons (vs_par2 1 2 false false C (ve_lst (va_nil)) (ve_int)) (vss_cons (vs_for C po (vi_list (ve_var 0)) tr_name (pg_name (i := 3) C.nd rfl (by first | exact Or.inl rfl | exact Or.inr rfl)) (vss_cons (vs_unp (ve_callF h_joinP hr rfl C (va_cons (ve_var 1) (va_cons (ve_lst (va_cons (ve_tup (va_cons (ve_var 3) (va_cons (ve_lst (va_nil)) (va_nil)))) (va_nil))) (va_nil)))) tr_2 (pg_tup rfl (pgs_cons (pg_name (i := 1) C.nd rfl (by first | exact Or.inl rfl | exact Or.inr rfl)) (pgs_cons (pg_name (i := 4) C.nd rfl (by first | exact Or.inl rfl | exact Or.inr rfl)) (pgs_nil))))) (vss_one (vs_add 2 C (ve_var 4))))) (vss_one (vs_ret (ve_tup (va_cons (ve_var 1) (va_cons (ve_var 2) (va_nil))))))))
theorem all_pile_of (t : Top K mg T) : ∀ k, Fn P w K mg base T k "pile_of" 1 (m_pile_of k)
  | 0 => fn_zero t.d_pile_of rfl
  | k + 1 => fn_mk t.d_pile_of sc_pile_of (bd_pile_of t (all_check_keys t k) (all_joinP t k))
abbrev s_heap_from : Stmt := top 71
abbrev N_heap_from : List Str := ["row", "at"]
theorem sc_heap_from : FnScope N_heap_from ["row"] (defScope s_heap_from) := ⟨rfl, rfl, rfl, by decide +kernel, rfl, by decide +kernel, by decide +kernel⟩
theorem bd_heap_from {k : Nat} {c_heap_from : List SV → R} (t : Top K mg T) (h_heap_from : Fn P w K mg base T k "heap_from" 1 c_heap_from) : Bd P w K mg base T k N_heap_from "heap_from" s_heap_from (b_heap_from c_heap_from) := by
  intro f cdv A outer s0 H E B hr C po tk
  unfold b_heap_from
  exact vss_cons (vs_if (vt_cm (c_eq C) (ve_var 0) (ve_lst (va_nil))) (vss_one (vs_ret (ve_tup (va_nil)))) (vss_nil)) (vss_cons (vs_set 1 C (ve_index (ve_var 0) (ve_min1 C ⟨rfl, t.b_min⟩ (ve_var 0)))) (vss_one (vs_ret (ve_tup (va_cons (ve_callF h_heap_from hr rfl C (va_cons (ve_slH (ve_var 0) (ve_var 1)) (va_nil))) (va_cons (ve_ix (ve_var 0) (ve_var 1)) (va_cons (ve_callF h_heap_from hr rfl C (va_cons (ve_slL (ve_var 0) (ve_add (ve_var 1) (ve_int))) (va_nil))) (va_nil))))))))
theorem all_heap_from (t : Top K mg T) : ∀ k, Fn P w K mg base T k "heap_from" 1 (m_heap_from k)
  | 0 => fn_zero t.d_heap_from rfl
  | k + 1 => fn_mk t.d_heap_from sc_heap_from (bd_heap_from t (all_heap_from t k))
abbrev s_heap_of : Stmt := top 72
abbrev N_heap_of : List Str := ["row"]
theorem sc_heap_of : FnScope N_heap_of ["row"] (defScope s_heap_of) := ⟨rfl, rfl, rfl, by decide +kernel, rfl, by decide +kernel, by decide +kernel⟩
theorem bd_heap_of {k : Nat} {c_check_keys : List SV → R} {c_heap_from : List SV → R} (t : Top K mg T) (h_check_keys : Fn P w K mg base T k "check_keys" 1 c_check_keys) (h_heap_from : Fn P w K mg base T k "heap_from" 1 c_heap_from) : Bd P w K mg base T k N_heap_of "heap_of" s_heap_of (b_heap_of c_check_keys c_heap_from) := by
  intro f cdv A outer s0 H E B hr C po tk
  unfold b_heap_of
  exact vss_cons (vs_expr (ve_callF h_check_keys hr rfl C (va_cons (ve_var 0) (va_nil)))) (vss_cons (vs_if (vt_cm (c_ne C) (ve_lenSet C ⟨rfl, t.b_len⟩ ⟨rfl, t.b_set⟩ (ve_var 0)) (ve_len ⟨rfl, t.b_len⟩ (ve_var 0))) (vss_one (vs_raiseE C tk t.e_BadKey rfl)) (vss_nil)) (vss_one (vs_ret (ve_callF h_heap_from hr rfl C (va_cons (ve_var 0) (va_nil))))))
theorem all_heap_of (t : Top K mg T) : ∀ k, Fn P w K mg base T k "heap_of" 1 (m_heap_of k)
  | 0 => fn_zero t.d_heap_of rfl
  | k + 1 => fn_mk t.d_heap_of sc_heap_of (bd_heap_of t (all_check_keys t k) (all_heap_from t k))
abbrev s_row_of : Stmt := top 73
abbrev N_row_of : List Str := ["heap"]
theorem sc_row_of : FnScope N_row_of ["heap"] (defScope s_row_of) := ⟨rfl, rfl, rfl, by decide +kernel, rfl, by decide +kernel, by decide +kernel⟩
theorem bd_row_of {k : Nat} {c_check_heap : List SV → R} {c_row_from : List SV → R} (t : Top K mg T) (h_check_heap : Fn P w K mg base T k "check_heap" 1 c_check_heap) (h_row_from : Fn P w K mg base T k "row_from" 1 c_row_from) : Bd P w K mg base T k N_row_of "row_of" s_row_of (b_row_of c_check_heap c_row_from) := by
  intro f cdv A outer s0 H E B hr C po tk
  unfold b_row_of
  exact vss_cons (vs_expr (ve_callF h_check_heap hr rfl C (va_cons (ve_var 0) (va_nil)))) (vss_one (vs_ret (ve_callF h_row_from hr rfl C (va_cons (ve_var 0) (va_nil)))))
theorem all_row_of (t : Top K mg T) : ∀ k, Fn P w K mg base T k "row_of" 1 (m_row_of k)
  | 0 => fn_zero t.d_row_of rfl
  | k + 1 => fn_mk t.d_row_of sc_row_of (bd_row_of t (all_check_heap t k) (all_row_from t k))
abbrev s_sizes_of : Stmt := top 74
abbrev N_sizes_of : List Str := ["shape"]
theorem sc_sizes_of : FnScope N_sizes_of ["shape"] (defScope s_sizes_of) := ⟨rfl, rfl, rfl, by decide +kernel, rfl, by decide +kernel, by decide +kernel⟩
theorem bd_sizes_of {k : Nat} {c_sizes_of : List SV → R} {c_size_of : List SV → R} (t : Top K mg T) (h_sizes_of : Fn P w K mg base T k "sizes_of" 1 c_sizes_of) (h_size_of : Fn P w K mg base T k "size_of" 1 c_size_of) : Bd P w K mg base T k N_sizes_of "sizes_of" s_sizes_of (b_sizes_of c_sizes_of c_size_of) := by
  intro f cdv A outer s0 H E B hr C po tk
  unfold b_sizes_of
  exact vss_one (vs_ret (ve_if (vt_cm (c_eq C) (ve_var 0) (ve_tup (va_nil))) (ve_lst (va_nil)) (ve_add (ve_add (ve_callF h_sizes_of hr rfl C (va_cons (ve_ix (ve_var 0) (ve_int)) (va_nil))) (ve_lst (va_cons (ve_callF h_size_of hr rfl C (va_cons (ve_var 0) (va_nil))) (va_nil)))) (ve_callF h_sizes_of hr rfl C (va_cons (ve_ix (ve_var 0) (ve_int)) (va_nil))))))
theorem all_sizes_of (t : Top K mg T) : ∀ k, Fn P w K mg base T k "sizes_of" 1 (m_sizes_of k)
  | 0 => fn_zero t.d_sizes_of rfl
  | k + 1 => fn_mk t.d_sizes_of sc_sizes_of (bd_sizes_of t (all_sizes_of t k) (all_size_of t k))
abbrev s_how_many_rows : Stmt := top 75
abbrev N_how_many_rows : List Str := ["shape", "found", "sizes", "at", "size"]
theorem sc_how_many_rows : FnScope N_how_many_rows ["shape"] (defScope s_how_many_rows) := ⟨rfl, rfl, rfl, by decide +kernel, rfl, by decide +kernel, by decide +kernel⟩
theorem bd_how_many_rows {k : Nat} {c_is_form : List SV → R} {c_sizes_of : List SV → R} (t : Top K mg T) (h_is_form : Fn P w K mg base T k "is_form" 1 c_is_form) (h_sizes_of : Fn P w K mg base T k "sizes_of" 1 c_sizes_of) : Bd P w K mg base T k N_how_many_rows "how_many_rows" s_how_many_rows (b_how_many_rows c_is_form c_sizes_of) := by
  intro f cdv A outer s0 H E B hr C po tk
  unfold b_how_many_rows p_how_many_rows_2 p_how_many_rows_1
  exact vss_cons (vs_if (vt_not (vt_val (ve_callF h_is_form hr rfl C (va_cons (ve_var 0) (va_nil))))) (vss_one (vs_raiseE C tk t.e_BadShape rfl)) (vss_nil)) (vss_cons (vs_set 1 C (ve_int)) (vss_cons (vs_set 2 C (ve_callF h_sizes_of hr rfl C (va_cons (ve_var 0) (va_nil)))) (vss_cons (vs_for C po (vi_range1 ⟨rfl, t.b_range⟩ (va_cons (ve_len ⟨rfl, t.b_len⟩ (ve_var 2)) (va_nil))) tr_name (pg_name (i := 3) C.nd rfl (by first | exact Or.inl rfl | exact Or.inr rfl)) (vss_one (vs_set 1 C (ve_mul (ve_var 1) (ve_add (ve_var 3) (ve_int)))))) (vss_cons (vs_for C po (vi_list (ve_var 2)) tr_name (pg_name (i := 4) C.nd rfl (by first | exact Or.inl rfl | exact Or.inr rfl)) (vss_one (vs_set 1 C (ve_fdiv (ve_var 1) (ve_var 4))))) (vss_one (vs_ret (ve_var 1)))))))
theorem all_how_many_rows (t : Top K mg T) : ∀ k, Fn P w K mg base T k "how_many_rows" 1 (m_how_many_rows k)
  | 0 => fn_zero t.d_how_many_rows rfl
  | k + 1 => fn_mk t.d_how_many_rows sc_how_many_rows (bd_how_many_rows t (all_is_form t k) (all_sizes_of t k))
abbrev s_joinT : Stmt := top 77
abbrev N_joinT : List Str := ["one", "other", "side", "steps"]
theorem sc_joinT : FnScope N_joinT ["one", "other"] (defScope s_joinT) := ⟨rfl, rfl, rfl, by decide +kernel, rfl, by decide +kernel, by decide +kernel⟩
theorem bd_joinT {k : Nat} {c_joinT : List SV → R} (t : Top K mg T) (h_joinT : Fn P w K mg base T k "joined_of_turning" 2 c_joinT) : Bd P w K mg base T k N_joinT "joined_of" s_joinT (b_joinT c_joinT) := by
  intro f cdv A outer s0 H E B hr C po tk
  unfold b_joinT
  exact vss_cons (vs_if (vt_w (vw_or (vt_cm (c_eq C) (ve_var 0) (ve_tup (va_nil))) (vw_or1 (vt_cm (c_eq C) (ve_var 1) (ve_tup (va_nil)))))) (vss_one (vs_ret (ve_tup (va_cons (ve_if (vt_cm (c_eq C) (ve_var 1) (ve_tup (va_nil))) (ve_var 0) (ve_var 1)) (va_cons (ve_int) (va_nil)))))) (vss_nil)) (vss_cons (vs_if (vt_cm c_lt (ve_ix (ve_var 1) (ve_int)) (ve_ix (ve_var 0) (ve_int))) (vss_one (vs_par2 0 1 false false C (ve_var 1) (ve_var 0))) (vss_nil)) (vss_cons (vs_unp (ve_callF h_joinT hr rfl C (va_cons (ve_ix (ve_var 0) (ve_int)) (va_cons (ve_var 1) (va_nil)))) tr_2 (pg_tup rfl (pgs_cons (pg_name (i := 2) C.nd rfl (by first | exact Or.inl rfl | exact Or.inr rfl)) (pgs_cons (pg_name (i := 3) C.nd rfl (by first | exact Or.inl rfl | exact Or.inr rfl)) (pgs_nil))))) (vss_one (vs_ret (ve_tup (va_cons (ve_tup (va_cons (ve_var 2) (va_cons (ve_ix (ve_var 0) (ve_int)) (va_cons (ve_ix (ve_var 0) (ve_int)) (va_nil))))) (va_cons (ve_add (ve_var 3) (ve_int)) (va_nil))))))))
theorem all_joinT (t : Top K mg T) : ∀ k, Fn P w K mg base T k "joined_of_turning" 2 (m_joinT k)
  | 0 => fn_zero t.d_joinT rfl
  | k + 1 => fn_mk t.d_joinT sc_joinT (bd_joinT t (all_joinT t k))
abbrev s_turn_join : Stmt := top 79
abbrev N_turn_join : List Str := ["one", "other"]
theorem sc_turn_join : FnScope N_turn_join ["one", "other"] (defScope s_turn_join) := ⟨rfl, rfl, rfl, by decide +kernel, rfl, by decide +kernel, by decide +kernel⟩
theorem bd_turn_join {k : Nat} {c_check_both : List SV → R} {c_joinT : List SV → R} (t : Top K mg T) (h_check_both : Fn P w K mg base T k "check_both" 2 c_check_both) (h_joinT : Fn P w K mg base T k "joined_of_turning" 2 c_joinT) : Bd P w K mg base T k N_turn_join "turn_join" s_turn_join (b_turn_join c_check_both c_joinT) := by
  intro f cdv A outer s0 H E B hr C po tk
  unfold b_turn_join
  exact vss_cons (vs_expr (ve_callF h_check_both hr rfl C (va_cons (ve_var 0) (va_cons (ve_var 1) (va_nil))))) (vss_one (vs_ret (ve_callF h_joinT hr rfl C (va_cons (ve_var 0) (va_cons (ve_var 1) (va_nil))))))
theorem all_turn_join (t : Top K mg T) : ∀ k, Fn P w K mg base T k "turn_join" 2 (m_turn_join k)
  | 0 => fn_zero t.d_turn_join rfl
  | k + 1 => fn_mk t.d_turn_join sc_turn_join (bd_turn_join t (all_check_both t k) (all_joinT t k))
abbrev s_turn_take : Stmt := top 80
abbrev N_turn_take : List Str := ["heap", "found", "steps"]
theorem sc_turn_take : FnScope N_turn_take ["heap"] (defScope s_turn_take) := ⟨rfl, rfl, rfl, by decide +kernel, rfl, by decide +kernel, by decide +kernel⟩
theorem bd_turn_take {k : Nat} {c_check_heap : List SV → R} {c_joinT : List SV → R} (t : Top K mg T) (h_check_heap : Fn P w K mg base T k "check_heap" 1 c_check_heap) (h_joinT : Fn P w K mg base T k "joined_of_turning" 2 c_joinT) : Bd P w K mg base T k N_turn_take "turn_take" s_turn_take (b_turn_take c_check_heap c_joinT) := by
  intro f cdv A outer s0 H E B hr C po tk
  unfold b_turn_take
  exact vss_cons (vs_expr (ve_callF h_check_heap hr rfl C (va_cons (ve_var 0) (va_nil)))) (vss_cons (vs_if (vt_cm (c_eq C) (ve_var 0) (ve_tup (va_nil))) (vss_one (vs_raiseE C tk t.e_Empty rfl)) (vss_nil)) (vss_cons (vs_unp (ve_callF h_joinT hr rfl C (va_cons (ve_ix (ve_var 0) (ve_int)) (va_cons (ve_ix (ve_var 0) (ve_int)) (va_nil)))) tr_2 (pg_tup rfl (pgs_cons (pg_name (i := 1) C.nd rfl (by first | exact Or.inl rfl | exact Or.inr rfl)) (pgs_cons (pg_name (i := 2) C.nd rfl (by first | exact Or.inl rfl | exact Or.inr rfl)) (pgs_nil))))) (vss_one (vs_ret (ve_tup (va_cons (ve_ix (ve_var 0) (ve_int)) (va_cons (ve_var 1) (va_cons (ve_var 2) (va_nil)))))))))
theorem all_turn_take (t : Top K mg T) : ∀ k, Fn P w K mg base T k "turn_take" 1 (m_turn_take k)
  | 0 => fn_zero t.d_turn_take rfl
  | k + 1 => fn_mk t.d_turn_take sc_turn_take (bd_turn_take t (all_check_heap t k) (all_joinT t k))
abbrev s_purse_of : Stmt := top 81
abbrev N_purse_of : List Str := ["heap"]
theorem sc_purse_of : FnScope N_purse_of ["heap"] (defScope s_purse_of) := ⟨rfl, rfl, rfl, by decide +kernel, rfl, by decide +kernel, by decide +kernel⟩
theorem bd_purse_of {k : Nat} {c_size_of : List SV → R} {c_purse_of : List SV → R} (t : Top K mg T) (h_size_of : Fn P w K mg base T k "size_of" 1 c_size_of) (h_purse_of : Fn P w K mg base T k "purse_of" 1 c_purse_of) : Bd P w K mg base T k N_purse_of "purse_of" s_purse_of (b_purse_of c_size_of c_purse_of) := by
  intro f cdv A outer s0 H E B hr C po tk
  unfold b_purse_of
  exact vss_cons (vs_if (vt_cm (c_eq C) (ve_var 0) (ve_tup (va_nil))) (vss_one (vs_ret (ve_int))) (vss_nil)) (vss_one (vs_ret (ve_add (ve_add (ve_int1 ⟨rfl, t.b_int⟩ (ve_cm c_gt (ve_callF h_size_of hr rfl C (va_cons (ve_ix (ve_var 0) (ve_int)) (va_nil))) (ve_callF h_size_of hr rfl C (va_cons (ve_ix (ve_var 0) (ve_int)) (va_nil))))) (ve_callF h_purse_of hr rfl C (va_cons (ve_ix (ve_var 0) (ve_int)) (va_nil)))) (ve_callF h_purse_of hr rfl C (va_cons (ve_ix (ve_var 0) (ve_int)) (va_nil))))))
theorem all_purse_of (t : Top K mg T) : ∀ k, Fn P w K mg base T k "purse_of" 1 (m_purse_of k)
  | 0 => fn_zero t.d_purse_of rfl
  | k + 1 => fn_mk t.d_purse_of sc_purse_of (bd_purse_of t (all_size_of t k) (all_purse_of t k))
abbrev s_purse : Stmt := top 82
abbrev N_purse : List Str := ["heap"]
theorem sc_purse : FnScope N_purse ["heap"] (defScope s_purse) := ⟨rfl, rfl, rfl, by decide +kernel, rfl, by decide +kernel, by decide +kernel⟩
theorem bd_purse {k : Nat} {c_check_heap : List SV → R} {c_purse_of : List SV → R} (t : Top K mg T) (h_check_heap : Fn P w K mg base T k "check_heap" 1 c_check_heap) (h_purse_of : Fn P w K mg base T k "purse_of" 1 c_purse_of) : Bd P w K mg base T k N_purse "purse" s_purse (b_purse c_check_heap c_purse_of) := by
  intro f cdv A outer s0 H E B hr C po tk
  unfold b_purse
  exact vss_cons (vs_expr (ve_callF h_check_heap hr rfl C (va_cons (ve_var 0) (va_nil)))) (vss_one (vs_ret (ve_callF h_purse_of hr rfl C (va_cons (ve_var 0) (va_nil)))))
theorem all_purse (t : Top K mg T) : ∀ k, Fn P w K mg base T k "purse" 1 (m_purse k)
  | 0 => fn_zero t.d_purse rfl
  | k + 1 => fn_mk t.d_purse sc_purse (bd_purse t (all_check_heap t k) (all_purse_of t k))
abbrev s_l_leaf : Stmt := top 84
abbrev N_l_leaf : List Str := ["_law_key"]
theorem sc_l_leaf : FnScope N_l_leaf ["_law_key"] (defScope s_l_leaf) := ⟨rfl, rfl, rfl, by decide +kernel, rfl, by decide +kernel, by decide +kernel⟩
theorem bd_l_leaf {k : Nat} (t : Top K mg T) : Bd P w K mg base T k N_l_leaf "_law_leaf" s_l_leaf (b_l_leaf) := by
  intro f cdv A outer s0 H E B hr C po tk
  unfold b_l_leaf
  exact vss_one (vs_ret (ve_tup (va_cons (ve_tup (va_nil)) (va_cons (ve_var 0) (va_cons (ve_tup (va_nil)) (va_nil))))))
theorem all_l_leaf (t : Top K mg T) : ∀ k, Fn P w K mg base T k "_law_leaf" 1 (m_l_leaf k)
  | 0 => fn_zero t.d_l_leaf rfl
  | k + 1 => fn_mk t.d_l_leaf sc_l_leaf (bd_l_leaf t)
abbrev s_l_sort : Stmt := top 85
abbrev N_l_sort : List Str := ["_law_ask", "_law_thing", "error", "_law_sorts"]
theorem sc_l_sort : FnScope N_l_sort ["_law_ask", "_law_thing"] (defScope s_l_sort) := ⟨rfl, rfl, rfl, by decide +kernel, rfl, by decide +kernel, by decide +kernel⟩
theorem bd_l_sort {k : Nat} {c_ask : Nat → List SV → R} (t : Top K mg T) (h_ask : FnVs P w K mg base T k 1 c_ask) : Bd P w K mg base T k N_l_sort "_law_sort" s_l_sort (b_l_sort c_ask) := by
  intro f cdv A outer s0 H E B hr C po tk
  unfold b_l_sort
  exact vss_cons (vs_tryV 2 0 C rfl rfl h_ask hr rfl t.x_l_sort (let ⟨cH, h1, _⟩ := (t.x_l_sort _ (.head _)).ct; ⟨cH, h1⟩) (fun pn xe => (va_cons (ve_var 1) (va_nil))) (fun ad oe pn cn hcn hz hfl => vss_cons (vs_setN 3 C.nd (ve_lst (va_cons (ve_isE 2 (t.x_l_sort cn hcn) hz hfl (.head _) ⟨rfl, t.b_isinstance⟩ rfl) (va_cons (ve_isE 2 (t.x_l_sort cn hcn) hz hfl (.tail _ (.head _)) ⟨rfl, t.b_isinstance⟩ rfl) (va_nil))))) (vss_cons (vs_setN 3 C.nd (ve_add (ve_var 3) (ve_lst (va_cons (ve_isE 2 (t.x_l_sort cn hcn) hz hfl (.tail _ (.tail _ (.head _))) ⟨rfl, t.b_isinstance⟩ rfl) (va_cons (ve_bl) (va_nil)))))) (vss_one (vs_ret (ve_ix (ve_tup (va_cons (ve_str) (va_cons (ve_str) (va_cons (ve_str) (va_cons (ve_str) (va_nil)))))) (ve_indexU C.un (ve_var 3) (ve_bl)))))))) (vss_one (vs_ret (ve_str)))
theorem all_l_sort (t : Top K mg T) {k : Nat} {m : Nat → List SV → R} (h_ask : FnVs P w K mg base T k 1 m) : Fn P w K mg base T (k + 1) "_law_sort" 2 (m_l_sort m (k + 1)) := fn_mk t.d_l_sort sc_l_sort (bd_l_sort t h_ask)
abbrev s_l_rows_right_k23 : Stmt := top 86
abbrev N_l_rows_right_k23 : List Str := ["_law_low", "_law_rising", "_law_falling", "_law_left", "_law_right", "_law_at", "_law_shape", "_law_lines", "_law_one", "_law_due"]
theorem sc_l_rows_right_k23 : FnScope N_l_rows_right_k23 ["_law_low"] (defScope s_l_rows_right_k23) := ⟨rfl, rfl, rfl, by decide +kernel, rfl, by decide +kernel, by decide +kernel⟩
theorem bd_l_rows_right_k23 {k : Nat} {c_heap_of : List SV → R} {c_row_of : List SV → R} {c_l_leaf : List SV → R} {c_how_many_rows : List SV → R} {c_rank : List SV → R} {c_keys_of : List SV → R} (t : Top K mg T) (h_heap_of : Fn P w K mg base T k "heap_of" 1 c_heap_of) (h_row_of : Fn P w K mg base T k "row_of" 1 c_row_of) (h_l_leaf : Fn P w K mg base T k "_law_leaf" 1 c_l_leaf) (h_how_many_rows : Fn P w K mg base T k "how_many_rows" 1 c_how_many_rows) (h_rank : Fn P w K mg base T k "rank" 1 c_rank) (h_keys_of : Fn P w K mg base T k "keys_of" 1 c_keys_of) : Bd P w K mg base T k N_l_rows_right_k23 "_law_rows_right" s_l_rows_right_k23 (b_l_rows_right_k23 c_heap_of c_row_of c_l_leaf c_how_many_rows c_rank c_keys_of) := by
  intro f cdv A outer s0 H E B hr C po tk
  unfold b_l_rows_right_k23 p_l_rows_right_k23_1
  exact vss_cons (vs_par2 1 2 false false C (ve_lc (own := [("_law_at", 5)]) C (vi_range1 ⟨rfl, t.b_range⟩ (va_cons (ve_int) (va_nil))) (blkOk_by (N := N_l_rows_right_k23) (sc := defScope s_l_rows_right_k23) (by decide +kernel)) tr_name (fun _ _ _ _ _ => pg_name (i := 5) C.nd rfl (by first | exact Or.inl rfl | exact Or.inr rfl)) (fun _ _ _ _ _ => vts_nil) (fun _ _ _ _ _ => ve_add (ve_var 0) (ve_var 5))) (ve_lc (own := [("_law_at", 5)]) C (vi_range1 ⟨rfl, t.b_range⟩ (va_cons (ve_int) (va_nil))) (blkOk_by (N := N_l_rows_right_k23) (sc := defScope s_l_rows_right_k23) (by decide +kernel)) tr_name (fun _ _ _ _ _ => pg_name (i := 5) C.nd rfl (by first | exact Or.inl rfl | exact Or.inr rfl)) (fun _ _ _ _ _ => vts_nil) (fun _ _ _ _ _ => ve_sub (ve_var 0) (ve_var 5)))) (vss_cons (vs_unp (ve_tup (va_cons (ve_tup (va_nil)) (va_cons (ve_tup (va_nil)) (va_nil)))) tr_2 (pg_tup rfl (pgs_cons (pg_name (i := 3) C.nd rfl (by first | exact Or.inl rfl | exact Or.inr rfl)) (pgs_cons (pg_name (i := 4) C.nd rfl (by first | exact Or.inl rfl | exact Or.inr rfl)) (pgs_nil))))) (vss_cons (vs_for C po (vi_range1 ⟨rfl, t.b_range⟩ (va_cons (ve_int) (va_nil))) tr_name (pg_name (i := 5) C.nd rfl (by first | exact Or.inl rfl | exact Or.inr rfl)) (vss_one (vs_par2 3 4 false false C (ve_tup (va_cons (ve_var 3) (va_cons (ve_sub (ve_var 0) (ve_var 5)) (va_cons (ve_tup (va_nil)) (va_nil))))) (ve_tup (va_cons (ve_tup (va_nil)) (va_cons (ve_sub (ve_add (ve_var 0) (ve_int)) (ve_var 5)) (va_cons (ve_var 4) (va_nil)))))))) (vss_cons (vs_if (vt_cm (c_ne C) (ve_callF h_heap_of hr rfl C (va_cons (ve_var 2) (va_nil))) (ve_var 3)) (vss_one (vs_ret (ve_bl))) (vss_nil)) (vss_cons (vs_if (vt_cm (c_ne C) (ve_callF h_heap_of hr rfl C (va_cons (ve_var 1) (va_nil))) (ve_var 4)) (vss_one (vs_ret (ve_bl))) (vss_nil)) (vss_cons (vs_if (vt_cm (c_ne C) (ve_callF h_row_of hr rfl C (va_cons (ve_var 3) (va_nil))) (ve_var 2)) (vss_one (vs_ret (ve_bl))) (vss_nil)) (vss_cons (vs_if (vt_cm (c_ne C) (ve_callF h_row_of hr rfl C (va_cons (ve_var 4) (va_nil))) (ve_var 1)) (vss_one (vs_ret (ve_bl))) (vss_nil)) (vss_cons (vs_if (vt_cm (c_ne C) (ve_callF h_heap_of hr rfl C (va_cons (ve_lst (va_nil)) (va_nil))) (ve_tup (va_nil))) (vss_one (vs_ret (ve_bl))) (vss_nil)) (vss_cons (vs_if (vt_cm (c_ne C) (ve_callF h_heap_of hr rfl C (va_cons (ve_lst (va_cons (ve_add (ve_var 0) (ve_int)) (va_cons (ve_var 0) (va_cons (ve_add (ve_var 0) (ve_int)) (va_nil))))) (va_nil))) (ve_tup (va_cons (ve_callF h_l_leaf hr rfl C (va_cons (ve_add (ve_var 0) (ve_int)) (va_nil))) (va_cons (ve_var 0) (va_cons (ve_callF h_l_leaf hr rfl C (va_cons (ve_add (ve_var 0) (ve_int)) (va_nil))) (va_nil)))))) (vss_one (vs_ret (ve_bl))) (vss_nil)) (vss_cons (vs_if (vt_cm (c_ne C) (ve_callF h_row_of hr rfl C (va_cons (ve_tup (va_cons (ve_tup (va_nil)) (va_cons (ve_var 0) (va_cons (ve_callF h_l_leaf hr rfl C (va_cons (ve_var 0) (va_nil))) (va_nil))))) (va_nil))) (ve_lst (va_cons (ve_var 0) (va_cons (ve_var 0) (va_nil))))) (vss_one (vs_ret (ve_bl))) (vss_nil)) (vss_cons (vs_set 6 C (ve_tup (va_cons (ve_callF h_l_leaf hr rfl C (va_cons (ve_add (ve_var 0) (ve_int)) (va_nil))) (va_cons (ve_var 0) (va_cons (ve_callF h_l_leaf hr rfl C (va_cons (ve_add (ve_var 0) (ve_int)) (va_nil))) (va_nil)))))) (vss_cons (vs_set 7 C (ve_lst (va_cons (ve_tup (va_cons (ve_tup (va_nil)) (va_cons (ve_int) (va_nil)))) (va_cons (ve_tup (va_cons (ve_callF h_l_leaf hr rfl C (va_cons (ve_var 0) (va_nil))) (va_cons (ve_int) (va_nil)))) (va_cons (ve_tup (va_cons (ve_var 6) (va_cons (ve_int) (va_nil)))) (va_nil)))))) (vss_cons (vs_set 7 C (ve_add (ve_var 7) (ve_lst (va_cons (ve_tup (va_cons (ve_tup (va_cons (ve_callF h_l_leaf hr rfl C (va_cons (ve_var 0) (va_nil))) (va_cons (ve_add (ve_var 0) (ve_int)) (va_cons (ve_callF h_l_leaf hr rfl C (va_cons (ve_sub (ve_var 0) (ve_int)) (va_nil))) (va_nil))))) (va_cons (ve_int) (va_nil)))) (va_cons (ve_tup (va_cons (ve_var 3) (va_cons (ve_int) (va_nil)))) (va_nil)))))) (vss_cons (vs_set 7 C (ve_add (ve_var 7) (ve_lst (va_cons (ve_tup (va_cons (ve_tup (va_cons (ve_var 6) (va_cons (ve_var 0) (va_cons (ve_var 6) (va_nil))))) (va_cons (ve_int) (va_nil)))) (va_cons (ve_tup (va_cons (ve_tup (va_cons (ve_var 6) (va_cons (ve_var 0) (va_cons (ve_tup (va_nil)) (va_nil))))) (va_cons (ve_int) (va_nil)))) (va_nil)))))) (vss_cons (vs_if (vt_not (vt_val (ve_all C ⟨rfl, t.b_all⟩ (ve_lc (own := [("_law_one", 8), ("_law_due", 9)]) C (vi_list (ve_var 7)) (blkOk_by (N := N_l_rows_right_k23) (sc := defScope s_l_rows_right_k23) (by decide +kernel)) tr_2 (fun _ _ _ _ _ => pg_tup rfl (pgs_cons (pg_name (i := 8) C.nd rfl (by first | exact Or.inl rfl | exact Or.inr rfl)) (pgs_cons (pg_name (i := 9) C.nd rfl (by first | exact Or.inl rfl | exact Or.inr rfl)) (pgs_nil)))) (fun _ _ _ _ _ => vts_nil) (fun _ _ _ _ _ => ve_cm (c_eq C.blk) (ve_callF h_how_many_rows hr rfl C.blk (va_cons (ve_var 8) (va_nil))) (ve_var 9)))))) (vss_one (vs_ret (ve_bl))) (vss_nil)) (vss_cons (vs_if (vt_cm (c_ne C) (ve_callF h_rank hr rfl C (va_cons (ve_tup (va_nil)) (va_nil))) (ve_int)) (vss_one (vs_ret (ve_bl))) (vss_nil)) (vss_cons (vs_if (vt_cm (c_ne C) (ve_callF h_rank hr rfl C (va_cons (ve_var 3) (va_nil))) (ve_int)) (vss_one (vs_ret (ve_bl))) (vss_nil)) (vss_cons (vs_if (vt_cm (c_ne C) (ve_callF h_rank hr rfl C (va_cons (ve_var 6) (va_nil))) (ve_int)) (vss_one (vs_ret (ve_bl))) (vss_nil)) (vss_cons (vs_if (vt_cm (c_ne C) (ve_callF h_rank hr rfl C (va_cons (ve_tup (va_cons (ve_var 6) (va_cons (ve_var 0) (va_cons (ve_var 6) (va_nil))))) (va_nil))) (ve_int)) (vss_one (vs_ret (ve_bl))) (vss_nil)) (vss_one (vs_ret (ve_cm (c_eq C) (ve_callF h_keys_of hr rfl C (va_cons (ve_var 6) (va_nil))) (ve_lst (va_cons (ve_var 0) (va_cons (ve_add (ve_var 0) (ve_int)) (va_cons (ve_add (ve_var 0) (ve_int)) (va_nil))))))))))))))))))))))))))
theorem all_l_rows_right_k23 (t : Top K mg T) : ∀ k, Fn P w K mg base T k "_law_rows_right" 1 (m_l_rows_right_k23 k)
  | 0 => fn_zero t.d_l_rows_right_k23 rfl
  | k + 1 => fn_mk t.d_l_rows_right_k23 sc_l_rows_right_k23 (bd_l_rows_right_k23 t (all_heap_of t k) (all_row_of t k) (all_l_leaf t k) (all_how_many_rows t k) (all_rank t k) (all_keys_of t k))
abbrev s_l_inner_right : Stmt := top 88
abbrev N_l_inner_right : List Str := ["_law_low", "_law_inner", "_law_found"]
theorem sc_l_inner_right : FnScope N_l_inner_right ["_law_low"] (defScope s_l_inner_right) := ⟨rfl, rfl, rfl, by decide +kernel, rfl, by decide +kernel, by decide +kernel⟩
theorem bd_l_inner_right {k : Nat} {c_l_leaf : List SV → R} {c_leaned : List SV → R} {c_shows : Nat → List SV → R} (t : Top K mg T) (h_l_leaf : Fn P w K mg base T k "_law_leaf" 1 c_l_leaf) (h_leaned : Fn P w K mg base T k "leaned" 1 c_leaned) (h_shows : FnSh P w K mg base T k "shows" 2 c_shows) : Bd P w K mg base T k N_l_inner_right "_law_inner_right" s_l_inner_right (b_l_inner_right c_l_leaf c_leaned c_shows) := by
  intro f cdv A outer s0 H E B hr C po tk
  unfold b_l_inner_right
  exact vss_cons (vs_set 1 C (ve_tup (va_cons (ve_tup (va_nil)) (va_cons (ve_var 0) (va_cons (ve_tup (va_cons (ve_tup (va_cons (ve_tup (va_nil)) (va_cons (ve_add (ve_var 0) (ve_int)) (va_cons (ve_callF h_l_leaf hr rfl C (va_cons (ve_add (ve_var 0) (ve_int)) (va_nil))) (va_nil))))) (va_cons (ve_add (ve_var 0) (ve_int)) (va_cons (ve_callF h_l_leaf hr rfl C (va_cons (ve_add (ve_var 0) (ve_int)) (va_nil))) (va_nil))))) (va_nil)))))) (vss_cons (vs_set 2 C (ve_callF h_leaned hr rfl C (va_cons (ve_var 1) (va_nil)))) (vss_cons (vs_if (vt_cm (c_ne C) (ve_at 2 1 t.c_Leaned (ve_var 2)) (ve_lst (va_cons (ve_lst (va_nil)) (va_cons (ve_lst (va_cons (ve_str) (va_cons (ve_str) (va_nil)))) (va_nil))))) (vss_one (vs_ret (ve_bl))) (vss_nil)) (vss_cons (vs_if (vt_not (vt_cm c_is (ve_met (oc3 t.c_Leans t.c_Slants t.c_Leaned) h_shows hr C (ve_var 2) (va_cons (ve_var 1) (va_nil))) (ve_bl))) (vss_one (vs_ret (ve_bl))) (vss_nil)) (vss_one (vs_ret (ve_cm c_is (ve_met (oc3 t.c_Leans t.c_Slants t.c_Leaned) h_shows hr C (ve_new0 0 t.c_Leans t.z_Leans rfl) (va_cons (ve_at 2 0 t.c_Leaned (ve_var 2)) (va_nil))) (ve_bl)))))))
theorem all_l_inner_right (t : Top K mg T) : ∀ k, Fn P w K mg base T k "_law_inner_right" 1 (m_l_inner_right k)
  | 0 => fn_zero t.d_l_inner_right rfl
  | k + 1 => fn_mk t.d_l_inner_right sc_l_inner_right (bd_l_inner_right t (all_l_leaf t k) (all_leaned t k) (all_shows t k))
abbrev s_l_leaned_right_k23 : Stmt := top 87
abbrev N_l_leaned_right_k23 : List Str := ["_law_low", "_law_heap", "_law_late", "_law_found", "_law_lines", "_law_way", "_law_due", "_law_more", "_law_ways"]
theorem sc_l_leaned_right_k23 : FnScope N_l_leaned_right_k23 ["_law_low"] (defScope s_l_leaned_right_k23) := ⟨rfl, rfl, rfl, by decide +kernel, rfl, by decide +kernel, by decide +kernel⟩
theorem bd_l_leaned_right_k23 {k : Nat} {c_l_leaf : List SV → R} {c_leaned : List SV → R} {c_shows : Nat → List SV → R} {c_Leaned : List FE → FE} {c_Slants : List FE → FE} {c_judged : List SV → R} {c_l_inner_right : List SV → R} (t : Top K mg T) (h_l_leaf : Fn P w K mg base T k "_law_leaf" 1 c_l_leaf) (h_leaned : Fn P w K mg base T k "leaned" 1 c_leaned) (h_shows : FnSh P w K mg base T k "shows" 2 c_shows) (h_Leaned : FnN P w K mg base T k 2 c_Leaned) (h_Slants : FnN P w K mg base T k 1 c_Slants) (h_judged : Fn P w K mg base T k "judged" 1 c_judged) (h_l_inner_right : Fn P w K mg base T k "_law_inner_right" 1 c_l_inner_right) : Bd P w K mg base T k N_l_leaned_right_k23 "_law_leaned_right" s_l_leaned_right_k23 (b_l_leaned_right_k23 c_l_leaf c_leaned c_shows c_Leaned c_Slants c_judged c_l_inner_right) := by
  intro f cdv A outer s0 H E B hr C po tk
  unfold b_l_leaned_right_k23 p_l_leaned_right_k23_2 p_l_leaned_right_k23_1
  exact vss_cons (vs_set 1 C (ve_tup (va_cons (ve_tup (va_nil)) (va_cons (ve_var 0) (va_cons (ve_tup (va_cons (ve_tup (va_nil)) (va_cons (ve_add (ve_var 0) (ve_int)) (va_cons (ve_callF h_l_leaf hr rfl C (va_cons (ve_add (ve_var 0) (ve_int)) (va_nil))) (va_nil))))) (va_nil)))))) (vss_cons (vs_set 2 C (ve_tup (va_cons (ve_tup (va_cons (ve_callF h_l_leaf hr rfl C (va_cons (ve_add (ve_var 0) (ve_int)) (va_nil))) (va_cons (ve_add (ve_var 0) (ve_int)) (va_cons (ve_tup (va_nil)) (va_nil))))) (va_cons (ve_var 0) (va_cons (ve_tup (va_nil)) (va_nil)))))) (vss_cons (vs_set 3 C (ve_callF h_leaned hr rfl C (va_cons (ve_var 1) (va_nil)))) (vss_cons (vs_if (vt_cm (c_ne C) (ve_at 2 0 t.c_Leaned (ve_var 3)) (ve_var 2)) (vss_one (vs_ret (ve_bl))) (vss_nil)) (vss_cons (vs_if (vt_cm (c_ne C) (ve_at 2 1 t.c_Leaned (ve_var 3)) (ve_lst (va_cons (ve_lst (va_nil)) (va_cons (ve_lst (va_cons (ve_str) (va_nil))) (va_nil))))) (vss_one (vs_ret (ve_bl))) (vss_nil)) (vss_cons (vs_if (vt_cm c_isn (ve_met (oc3 t.c_Leans t.c_Slants t.c_Leaned) h_shows hr C (ve_var 3) (va_cons (ve_var 1) (va_nil))) (ve_bl)) (vss_one (vs_ret (ve_bl))) (vss_nil)) (vss_cons (vs_if (vt_cm c_isn (ve_met (oc3 t.c_Leans t.c_Slants t.c_Leaned) h_shows hr C (ve_new t.c_Leaned h_Leaned hr rfl C (va_cons (ve_var 2) (va_cons (ve_lst (va_cons (ve_lst (va_nil)) (va_cons (ve_lst (va_cons (ve_str) (va_nil))) (va_nil)))) (va_nil)))) (va_cons (ve_var 1) (va_nil))) (ve_bl)) (vss_one (vs_ret (ve_bl))) (vss_nil)) (vss_cons (vs_set 4 C (ve_lst (va_cons (ve_tup (va_cons (ve_lst (va_nil)) (va_cons (ve_bl) (va_nil)))) (va_cons (ve_tup (va_cons (ve_lst (va_cons (ve_str) (va_nil))) (va_cons (ve_bl) (va_nil)))) (va_cons (ve_tup (va_cons (ve_lst (va_cons (ve_str) (va_cons (ve_str) (va_nil)))) (va_cons (ve_bl) (va_nil)))) (va_nil)))))) (vss_cons (vs_set 4 C (ve_add (ve_var 4) (ve_lst (va_cons (ve_tup (va_cons (ve_lst (va_cons (ve_str) (va_nil))) (va_cons (ve_bl) (va_nil)))) (va_cons (ve_tup (va_cons (ve_lst (va_cons (ve_str) (va_nil))) (va_cons (ve_bl) (va_nil)))) (va_cons (ve_tup (va_cons (ve_mul (ve_lst (va_cons (ve_str) (va_nil))) (ve_int)) (va_cons (ve_bl) (va_nil)))) (va_nil))))))) (vss_cons (vs_for C po (vi_list (ve_var 4)) tr_2 (pg_tup rfl (pgs_cons (pg_name (i := 5) C.nd rfl (by first | exact Or.inl rfl | exact Or.inr rfl)) (pgs_cons (pg_name (i := 6) C.nd rfl (by first | exact Or.inl rfl | exact Or.inr rfl)) (pgs_nil)))) (vss_one (vs_if (vt_w (vw_or (vt_cm (c_ne C) (ve_met (oc3 t.c_Leans t.c_Slants t.c_Leaned) h_shows hr C (ve_new t.c_Slants h_Slants hr rfl C (va_cons (ve_var 5) (va_nil))) (va_cons (ve_var 1) (va_nil))) (ve_var 6)) (vw_or1 (vt_val (ve_met (oc3 t.c_Leans t.c_Slants t.c_Leaned) h_shows hr C (ve_new t.c_Slants h_Slants hr rfl C (va_cons (ve_var 5) (va_nil))) (va_cons (ve_var 2) (va_nil))))))) (vss_one (vs_ret (ve_bl))) (vss_nil)))) (vss_cons (vs_set 7 C (ve_tup (va_cons (ve_ix (ve_var 2) (ve_int)) (va_cons (ve_var 0) (va_cons (ve_callF h_l_leaf hr rfl C (va_cons (ve_add (ve_var 0) (ve_int)) (va_nil))) (va_nil)))))) (vss_cons (vs_set 4 C (ve_lst (va_cons (ve_lst (va_cons (ve_lst (va_nil)) (va_nil))) (va_cons (ve_lst (va_cons (ve_lst (va_cons (ve_str) (va_nil))) (va_nil))) (va_cons (ve_lst (va_cons (ve_lst (va_nil)) (va_cons (ve_lst (va_cons (ve_str) (va_nil))) (va_cons (ve_lst (va_cons (ve_str) (va_cons (ve_str) (va_nil)))) (va_nil))))) (va_nil)))))) (vss_cons (vs_set 4 C (ve_add (ve_var 4) (ve_lst (va_cons (ve_lst (va_cons (ve_lst (va_nil)) (va_cons (ve_lst (va_nil)) (va_cons (ve_lst (va_cons (ve_str) (va_nil))) (va_nil))))) (va_cons (ve_lst (va_cons (ve_lst (va_nil)) (va_cons (ve_lst (va_cons (ve_str) (va_nil))) (va_nil)))) (va_cons (ve_lst (va_cons (ve_lst (va_cons (ve_str) (va_nil))) (va_cons (ve_lst (va_nil)) (va_nil)))) (va_cons (ve_lst (va_nil)) (va_nil)))))))) (vss_cons (vs_for C po (vi_list (ve_var 4)) tr_name (pg_name (i := 8) C.nd rfl (by first | exact Or.inl rfl | exact Or.inr rfl)) (vss_one (vs_if (vt_val (ve_met (oc3 t.c_Leans t.c_Slants t.c_Leaned) h_shows hr C (ve_new t.c_Leaned h_Leaned hr rfl C (va_cons (ve_var 2) (va_cons (ve_var 8) (va_nil)))) (va_cons (ve_var 1) (va_nil)))) (vss_one (vs_ret (ve_bl))) (vss_nil)))) (vss_cons (vs_if (vt_val (ve_met (oc3 t.c_Leans t.c_Slants t.c_Leaned) h_shows hr C (ve_new t.c_Leaned h_Leaned hr rfl C (va_cons (ve_var 1) (va_cons (ve_lst (va_cons (ve_lst (va_nil)) (va_cons (ve_lst (va_cons (ve_str) (va_nil))) (va_nil)))) (va_nil)))) (va_cons (ve_var 1) (va_nil)))) (vss_one (vs_ret (ve_bl))) (vss_nil)) (vss_cons (vs_if (vt_val (ve_met (oc3 t.c_Leans t.c_Slants t.c_Leaned) h_shows hr C (ve_new t.c_Leaned h_Leaned hr rfl C (va_cons (ve_var 7) (va_cons (ve_lst (va_cons (ve_lst (va_nil)) (va_cons (ve_lst (va_cons (ve_str) (va_nil))) (va_nil)))) (va_nil)))) (va_cons (ve_var 1) (va_nil)))) (vss_one (vs_ret (ve_bl))) (vss_nil)) (vss_cons (vs_if (vt_cm c_isn (ve_met (oc3 t.c_Leans t.c_Slants t.c_Leaned) h_shows hr C (ve_new t.c_Leaned h_Leaned hr rfl C (va_cons (ve_var 2) (va_cons (ve_lst (va_nil)) (va_nil)))) (va_cons (ve_var 2) (va_nil))) (ve_bl)) (vss_one (vs_ret (ve_bl))) (vss_nil)) (vss_cons (vs_if (vt_not (vt_val (ve_isO (oc3 t.c_Leans t.c_Slants t.c_Leaned) t.i_Slants ⟨rfl, t.b_isinstance⟩ rfl (ve_callF h_judged hr rfl C (va_cons (ve_var 1) (va_nil)))))) (vss_one (vs_ret (ve_bl))) (vss_nil)) (vss_cons (vs_if (vt_not (vt_val (ve_isO (oc3 t.c_Leans t.c_Slants t.c_Leaned) t.i_Leans ⟨rfl, t.b_isinstance⟩ rfl (ve_callF h_judged hr rfl C (va_cons (ve_var 2) (va_nil)))))) (vss_one (vs_ret (ve_bl))) (vss_nil)) (vss_cons (vs_if (vt_val (ve_met (oc3 t.c_Leans t.c_Slants t.c_Leaned) h_shows hr C (ve_new0 0 t.c_Leans t.z_Leans rfl) (va_cons (ve_var 1) (va_nil)))) (vss_one (vs_ret (ve_bl))) (vss_nil)) (vss_cons (vs_if (vt_cm c_isn (ve_met (oc3 t.c_Leans t.c_Slants t.c_Leaned) h_shows hr C (ve_new0 0 t.c_Leans t.z_Leans rfl) (va_cons (ve_tup (va_nil)) (va_nil))) (ve_bl)) (vss_one (vs_ret (ve_bl))) (vss_nil)) (vss_one (vs_ret (ve_callF h_l_inner_right hr rfl C (va_cons (ve_var 0) (va_nil)))))))))))))))))))))))))
theorem all_l_leaned_right_k23 (t : Top K mg T) : ∀ k, Fn P w K mg base T k "_law_leaned_right" 1 (m_l_leaned_right_k23 k)
  | 0 => fn_zero t.d_l_leaned_right_k23 rfl
  | k + 1 => fn_mk t.d_l_leaned_right_k23 sc_l_leaned_right_k23 (bd_l_leaned_right_k23 t (all_l_leaf t k) (all_leaned t k) (all_shows t k) (all_Leaned t k) (all_Slants t k) (all_judged t k) (all_l_inner_right t k))
abbrev s_l_heaps_right_k23 : Stmt := top 89
abbrev N_l_heaps_right_k23 : List Str := ["_law_low", "_law_some", "_law_heap", "_law_found", "_law_at", "_law_key", "_law_twice", "_law_ranks", "_law_many"]
theorem sc_l_heaps_right_k23 : FnScope N_l_heaps_right_k23 ["_law_low"] (defScope s_l_heaps_right_k23) := ⟨rfl, rfl, rfl, by decide +kernel, rfl, by decide +kernel, by decide +kernel⟩
theorem bd_l_heaps_right_k23 {k : Nat} {c_lean_of : List SV → R} {c_shows : Nat → List SV → R} {c_keys_of : List SV → R} {c_lean_take : List SV → R} {c_lean_join : List SV → R} {c_how_many : List SV → R} {c_shape_by : List SV → R} {c_l_leaf : List SV → R} {c_number_of : List SV → R} {c_rank : List SV → R} {c_W_l_leaf : List SV → R} {c_W_lean_join : List SV → R} {c_L_l_sort : (List SV → R) → List SV → R} (t : Top K mg T) (h_lean_of : Fn P w K mg base T (k + 2) "lean_of" 1 c_lean_of) (h_shows : FnSh P w K mg base T (k + 2) "shows" 2 c_shows) (h_keys_of : Fn P w K mg base T (k + 2) "keys_of" 1 c_keys_of) (h_lean_take : Fn P w K mg base T (k + 2) "lean_take" 1 c_lean_take) (h_lean_join : Fn P w K mg base T (k + 2) "lean_join" 2 c_lean_join) (h_how_many : Fn P w K mg base T (k + 2) "how_many" 1 c_how_many) (h_shape_by : Fn P w K mg base T (k + 2) "shape_by" 2 c_shape_by) (h_l_leaf : Fn P w K mg base T (k + 2) "_law_leaf" 1 c_l_leaf) (h_number_of : Fn P w K mg base T (k + 2) "number_of" 1 c_number_of) (h_rank : Fn P w K mg base T (k + 2) "rank" 1 c_rank) (h_W_l_leaf : ∀ (B' : Heap) (T' : Ct), Top K mg T' → Fn P w K mg B' T' k "_law_leaf" 1 c_W_l_leaf) (h_W_lean_join : ∀ (B' : Heap) (T' : Ct), Top K mg T' → Fn P w K mg B' T' k "lean_join" 2 c_W_lean_join) (h_L_l_sort : ∀ (B' : Heap) (f : Addr) (G' : Hp) (m1 : List SV → R), FnV P w K mg B' (T.cal (fun _ => f) G') (k + 1) f 1 m1 → Fn P w K mg B' (T.cal (fun _ => f) G') (k + 2) "_law_sort" 2 (c_L_l_sort m1)) : BdC P w K mg base T (k + 2) N_l_heaps_right_k23 "_law_heaps_right" s_l_heaps_right_k23 (b_l_heaps_right_k23 c_lean_of c_shows c_keys_of c_lean_take c_lean_join c_how_many c_shape_by c_l_leaf c_number_of c_rank c_W_l_leaf c_W_lean_join c_L_l_sort) := by
  intro f c Pt A outer s0 H E B TB hP hr C po tk
  unfold b_l_heaps_right_k23 p_l_heaps_right_k23_1
  exact vss_cons (vs_setLc 1 (own := [("_law_at", 4)]) C (vi_range1 ⟨rfl, t.b_range⟩ (va_cons (ve_int) (va_nil))) (blkOk_by (N := N_l_heaps_right_k23) (sc := defScope s_l_heaps_right_k23) (by decide +kernel)) tr_name (fun _ _ _ _ _ => pg_name (i := 4) C.nd rfl (by first | exact Or.inl rfl | exact Or.inr rfl)) (fun _ _ _ _ _ => vts_nil) (fun _ _ _ _ _ => ve_add (ve_var 0) (ve_mod (ve_mul (ve_var 4) (ve_int)) (ve_int)))) (vss_cons (vs_par2 2 3 false true C (ve_callF h_lean_of hr rfl C (va_cons (ve_var 1) (va_nil))) (ve_lst (va_nil))) (vss_cons (vs_if (vt_w (vw_or (vt_cm c_isn (ve_met (oc3 t.c_Leans t.c_Slants t.c_Leaned) h_shows hr C (ve_new0 0 t.c_Leans t.z_Leans rfl) (va_cons (ve_var 2) (va_nil))) (ve_bl)) (vw_or (vt_cm (c_ne C) (ve_callF h_keys_of hr rfl C (va_cons (ve_var 2) (va_nil))) (ve_sorted ⟨rfl, t.b_sorted⟩ (ve_var 1))) (vw_or1 (vt_cm (c_ne C) (ve_callF h_lean_of hr rfl C (va_cons (ve_lst (va_nil)) (va_nil))) (ve_tup (va_nil))))))) (vss_one (vs_ret (ve_bl))) (vss_nil)) (vss_cons (vs_for C po (vi_range1 ⟨rfl, t.b_range⟩ (va_cons (ve_int) (va_nil))) tr_name (pg_name (i := 4) C.nd rfl (by first | exact Or.inl rfl | exact Or.inr rfl)) (vss_cons (vs_unp (ve_callF h_lean_take hr rfl C (va_cons (ve_var 2) (va_nil))) tr_2 (pg_tup rfl (pgs_cons (pg_name (i := 5) C.nd rfl (by first | exact Or.inl rfl | exact Or.inr rfl)) (pgs_cons (pg_name (i := 2) C.nd rfl (by first | exact Or.inl rfl | exact Or.inr rfl)) (pgs_nil))))) (vss_cons (vs_app 3 (ve_var 5)) (vss_one (vs_if (vt_cm c_isn (ve_met (oc3 t.c_Leans t.c_Slants t.c_Leaned) h_shows hr C (ve_new0 0 t.c_Leans t.z_Leans rfl) (va_cons (ve_var 2) (va_nil))) (ve_bl)) (vss_one (vs_ret (ve_bl))) (vss_nil)))))) (vss_cons (vs_set 6 C (ve_callF h_lean_join hr rfl C (va_cons (ve_callF h_lean_of hr rfl C (va_cons (ve_slH (ve_var 1) (ve_int)) (va_nil))) (va_cons (ve_callF h_lean_of hr rfl C (va_cons (ve_slH (ve_var 1) (ve_int)) (va_nil))) (va_nil))))) (vss_cons (vs_frz 3 (vs_if (vt_cm (c_ne C) (ve_var 3) (ve_sorted ⟨rfl, t.b_sorted⟩ (ve_var 1))) (vss_one (vs_ret (ve_bl))) (vss_nil))) (vss_cons (vs_if (vt_cm (c_ne C) (ve_var 2) (ve_tup (va_nil))) (vss_one (vs_ret (ve_bl))) (vss_nil)) (vss_cons (vs_if (vt_cm (c_ne C) (ve_callF h_keys_of hr rfl C (va_cons (ve_var 6) (va_nil))) (ve_sorted ⟨rfl, t.b_sorted⟩ (ve_mul (ve_slH (ve_var 1) (ve_int)) (ve_int)))) (vss_one (vs_ret (ve_bl))) (vss_nil)) (vss_cons (vs_if (vt_cm (c_ne C) (ve_callF h_lean_join hr rfl C (va_cons (ve_tup (va_nil)) (va_cons (ve_tup (va_nil)) (va_nil)))) (ve_tup (va_nil))) (vss_one (vs_ret (ve_bl))) (vss_nil)) (vss_cons (vs_if (vt_cm (c_ne C) (ve_lc (own := [("_law_many", 8)]) C (vi_range1 ⟨rfl, t.b_range⟩ (va_cons (ve_int) (va_nil))) (blkOk_by (N := N_l_heaps_right_k23) (sc := defScope s_l_heaps_right_k23) (by decide +kernel)) tr_name (fun _ _ _ _ _ => pg_name (i := 8) C.nd rfl (by first | exact Or.inl rfl | exact Or.inr rfl)) (fun _ _ _ _ _ => vts_nil) (fun _ _ _ _ _ => ve_callF h_how_many hr rfl C.blk (va_cons (ve_var 8) (va_nil)))) (ve_lst (va_cons (ve_int) (va_cons (ve_int) (va_cons (ve_int) (va_cons (ve_int) (va_cons (ve_int) (va_cons (ve_int) (va_nil))))))))) (vss_one (vs_ret (ve_bl))) (vss_nil)) (vss_cons (vs_ownLc 3 (own := [("_law_at", 4)]) C (vi_range1 ⟨rfl, t.b_range⟩ (va_cons (ve_int) (va_nil))) (blkOk_by (N := N_l_heaps_right_k23) (sc := defScope s_l_heaps_right_k23) (by decide +kernel)) tr_name (fun _ _ _ _ _ => pg_name (i := 4) C.nd rfl (by first | exact Or.inl rfl | exact Or.inr rfl)) (fun _ _ _ _ _ => vts_nil) (fun _ _ _ _ _ => ve_callF h_shape_by hr rfl C.blk (va_cons (ve_int) (va_cons (ve_var 4) (va_nil))))) (vss_cons (vs_frz 3 (vs_if (vt_cm (c_ne C) (ve_var 3) (ve_lst (va_cons (ve_tup (va_cons (ve_tup (va_cons (ve_callF h_l_leaf hr rfl C (va_cons (ve_int) (va_nil))) (va_cons (ve_int) (va_cons (ve_tup (va_nil)) (va_nil))))) (va_cons (ve_int) (va_cons (ve_tup (va_nil)) (va_nil))))) (va_cons (ve_tup (va_cons (ve_callF h_l_leaf hr rfl C (va_cons (ve_int) (va_nil))) (va_cons (ve_int) (va_cons (ve_callF h_l_leaf hr rfl C (va_cons (ve_int) (va_nil))) (va_nil))))) (va_nil))))) (vss_one (vs_ret (ve_bl))) (vss_nil))) (vss_cons (vs_if (vt_cm (c_ne C) (ve_callF h_number_of hr rfl C (va_cons (ve_tup (va_cons (ve_callF h_l_leaf hr rfl C (va_cons (ve_add (ve_var 0) (ve_int)) (va_nil))) (va_cons (ve_var 0) (va_cons (ve_callF h_l_leaf hr rfl C (va_cons (ve_add (ve_var 0) (ve_int)) (va_nil))) (va_nil))))) (va_nil))) (ve_int)) (vss_one (vs_ret (ve_bl))) (vss_nil)) (vss_cons (vs_if (vt_cm (c_ne C) (ve_callF h_number_of hr rfl C (va_cons (ve_tup (va_nil)) (va_nil))) (ve_int)) (vss_one (vs_ret (ve_bl))) (vss_nil)) (vss_cons (vs_if (vt_cm (c_ne C) (ve_callF h_number_of hr rfl C (va_cons (ve_callF h_shape_by hr rfl C (va_cons (ve_int) (va_cons (ve_sub (ve_callF h_how_many hr rfl C (va_cons (ve_int) (va_nil))) (ve_int)) (va_nil)))) (va_nil))) (ve_sub (ve_callF h_how_many hr rfl C (va_cons (ve_int) (va_nil))) (ve_int))) (vss_one (vs_ret (ve_bl))) (vss_nil)) (vss_cons (vs_setLc 7 (own := [("_law_at", 4)]) C (vi_range1 ⟨rfl, t.b_range⟩ (va_cons (ve_callF h_how_many hr rfl C (va_cons (ve_int) (va_nil))) (va_nil))) (blkOk_by (N := N_l_heaps_right_k23) (sc := defScope s_l_heaps_right_k23) (by decide +kernel)) tr_name (fun _ _ _ _ _ => pg_name (i := 4) C.nd rfl (by first | exact Or.inl rfl | exact Or.inr rfl)) (fun _ _ _ _ _ => vts_nil) (fun _ _ _ _ _ => ve_callF h_rank hr rfl C.blk (va_cons (ve_callF h_shape_by hr rfl C.blk (va_cons (ve_int) (va_cons (ve_var 4) (va_nil)))) (va_nil)))) (vss_cons (vs_if (vt_w (vw_or (vt_cm (c_ne C) (ve_var 7) (ve_sorted ⟨rfl, t.b_sorted⟩ (ve_var 7))) (vw_or1 (vt_cm (c_ne C) (ve_ix (ve_var 7) (ve_neg (ve_int))) (ve_int))))) (vss_one (vs_ret (ve_bl))) (vss_nil)) (vss_one (vs_ret (ve_cm (c_eq C) (ve_callL (p := "_law_one") (ys := ["_law_low"]) (js := [0]) C hr rfl (df_at t.d_l_sort) h_L_l_sort TB rfl hP rfl (lamOk_by (N := N_l_heaps_right_k23) (sc := defScope s_l_heaps_right_k23) (by decide +kernel)) (fun B' f c1 G' q cl A ou s H E Bd hr C => ve_callF (h_W_lean_join B' _ (t.cal (fun _ => f) [] G')) hr rfl C (va_cons (ve_var 0) (va_cons (ve_callF (h_W_l_leaf B' _ (t.cal (fun _ => f) [] G')) hr rfl C (va_cons (ve_var 1) (va_nil))) (va_nil)))) (va_cons (ve_callF h_lean_of hr rfl C (va_cons (ve_var 1) (va_nil))) (va_nil)) (fun _ _ _ _ _ us hl => match us, hl with | [_], _ => rfl)) (ve_str))))))))))))))))))))
theorem all_l_heaps_right_k23 (t : Top K mg T) (tm : TopM K mg base T) : ∀ k, Fn P w K mg base T k "_law_heaps_right" 1 (m_l_heaps_right_k23 k)
  | 0 => fn_no t.d_l_heaps_right_k23 rfl
  | 1 => fn_no t.d_l_heaps_right_k23 rfl
  | 2 => fn_no t.d_l_heaps_right_k23 rfl
  | k + 3 => fn_mkT t.d_l_heaps_right_k23 tm.mt_l_heaps_right_k23 sc_l_heaps_right_k23 (bd_l_heaps_right_k23 t (all_lean_of t (k + 2)) (all_shows t (k + 2)) (all_keys_of t (k + 2)) (all_lean_take t (k + 2)) (all_lean_join t (k + 2)) (all_how_many t (k + 2)) (all_shape_by t (k + 2)) (all_l_leaf t (k + 2)) (all_number_of t (k + 2)) (all_rank t (k + 2)) (fun B' T' t' => all_l_leaf t' k) (fun B' T' t' => all_lean_join t' k) (fun B' f G' m1 V => all_l_sort (t.cal (fun _ => f) [] G') (fun _ => V)))
abbrev s_l_turns_right : Stmt := top 90
abbrev N_l_turns_right : List Str := ["_law_low", "_law_one", "_law_two", "_law_chain"]
theorem sc_l_turns_right : FnScope N_l_turns_right ["_law_low"] (defScope s_l_turns_right) := ⟨rfl, rfl, rfl, by decide +kernel, rfl, by decide +kernel, by decide +kernel⟩
theorem bd_l_turns_right {k : Nat} {c_l_leaf : List SV → R} {c_turn_join : List SV → R} {c_turn_take : List SV → R} {c_purse : List SV → R} (t : Top K mg T) (h_l_leaf : Fn P w K mg base T k "_law_leaf" 1 c_l_leaf) (h_turn_join : Fn P w K mg base T k "turn_join" 2 c_turn_join) (h_turn_take : Fn P w K mg base T k "turn_take" 1 c_turn_take) (h_purse : Fn P w K mg base T k "purse" 1 c_purse) : Bd P w K mg base T k N_l_turns_right "_law_turns_right" s_l_turns_right (b_l_turns_right c_l_leaf c_turn_join c_turn_take c_purse) := by
  intro f cdv A outer s0 H E B hr C po tk
  unfold b_l_turns_right
  exact vss_cons (vs_par2 1 2 false false C (ve_callF h_l_leaf hr rfl C (va_cons (ve_var 0) (va_nil))) (ve_tup (va_cons (ve_callF h_l_leaf hr rfl C (va_cons (ve_add (ve_var 0) (ve_int)) (va_nil))) (va_cons (ve_var 0) (va_cons (ve_callF h_l_leaf hr rfl C (va_cons (ve_add (ve_var 0) (ve_int)) (va_nil))) (va_nil)))))) (vss_cons (vs_if (vt_cm (c_ne C) (ve_callF h_turn_join hr rfl C (va_cons (ve_tup (va_nil)) (va_cons (ve_var 2) (va_nil)))) (ve_tup (va_cons (ve_var 2) (va_cons (ve_int) (va_nil))))) (vss_one (vs_ret (ve_bl))) (vss_nil)) (vss_cons (vs_if (vt_cm (c_ne C) (ve_callF h_turn_join hr rfl C (va_cons (ve_var 2) (va_cons (ve_tup (va_nil)) (va_nil)))) (ve_tup (va_cons (ve_var 2) (va_cons (ve_int) (va_nil))))) (vss_one (vs_ret (ve_bl))) (vss_nil)) (vss_cons (vs_if (vt_cm (c_ne C) (ve_callF h_turn_join hr rfl C (va_cons (ve_tup (va_nil)) (va_cons (ve_tup (va_nil)) (va_nil)))) (ve_tup (va_cons (ve_tup (va_nil)) (va_cons (ve_int) (va_nil))))) (vss_one (vs_ret (ve_bl))) (vss_nil)) (vss_cons (vs_if (vt_cm (c_ne C) (ve_callF h_turn_take hr rfl C (va_cons (ve_var 1) (va_nil))) (ve_tup (va_cons (ve_var 0) (va_cons (ve_tup (va_nil)) (va_cons (ve_int) (va_nil)))))) (vss_one (vs_ret (ve_bl))) (vss_nil)) (vss_cons (vs_if (vt_cm (c_ne C) (ve_callF h_turn_join hr rfl C (va_cons (ve_var 1) (va_cons (ve_var 1) (va_nil)))) (ve_tup (va_cons (ve_tup (va_cons (ve_callF h_l_leaf hr rfl C (va_cons (ve_var 0) (va_nil))) (va_cons (ve_var 0) (va_cons (ve_tup (va_nil)) (va_nil))))) (va_cons (ve_int) (va_nil))))) (vss_one (vs_ret (ve_bl))) (vss_nil)) (vss_cons (vs_if (vt_cm (c_ne C) (ve_callF h_turn_join hr rfl C (va_cons (ve_callF h_l_leaf hr rfl C (va_cons (ve_add (ve_var 0) (ve_int)) (va_nil))) (va_cons (ve_var 1) (va_nil)))) (ve_tup (va_cons (ve_tup (va_cons (ve_callF h_l_leaf hr rfl C (va_cons (ve_add (ve_var 0) (ve_int)) (va_nil))) (va_cons (ve_var 0) (va_cons (ve_tup (va_nil)) (va_nil))))) (va_cons (ve_int) (va_nil))))) (vss_one (vs_ret (ve_bl))) (vss_nil)) (vss_cons (vs_if (vt_cm (c_ne C) (ve_callF h_turn_join hr rfl C (va_cons (ve_var 2) (va_cons (ve_var 1) (va_nil)))) (ve_tup (va_cons (ve_tup (va_cons (ve_tup (va_cons (ve_callF h_l_leaf hr rfl C (va_cons (ve_add (ve_var 0) (ve_int)) (va_nil))) (va_cons (ve_var 0) (va_cons (ve_tup (va_nil)) (va_nil))))) (va_cons (ve_var 0) (va_cons (ve_callF h_l_leaf hr rfl C (va_cons (ve_add (ve_var 0) (ve_int)) (va_nil))) (va_nil))))) (va_cons (ve_int) (va_nil))))) (vss_one (vs_ret (ve_bl))) (vss_nil)) (vss_cons (vs_if (vt_cm (c_ne C) (ve_callF h_turn_take hr rfl C (va_cons (ve_var 2) (va_nil))) (ve_tup (va_cons (ve_var 0) (va_cons (ve_tup (va_cons (ve_callF h_l_leaf hr rfl C (va_cons (ve_add (ve_var 0) (ve_int)) (va_nil))) (va_cons (ve_add (ve_var 0) (ve_int)) (va_cons (ve_tup (va_nil)) (va_nil))))) (va_cons (ve_int) (va_nil)))))) (vss_one (vs_ret (ve_bl))) (vss_nil)) (vss_cons (vs_set 3 C (ve_tup (va_cons (ve_tup (va_nil)) (va_cons (ve_var 0) (va_cons (ve_tup (va_cons (ve_tup (va_nil)) (va_cons (ve_add (ve_var 0) (ve_int)) (va_cons (ve_callF h_l_leaf hr rfl C (va_cons (ve_add (ve_var 0) (ve_int)) (va_nil))) (va_nil))))) (va_nil)))))) (vss_cons (vs_if (vt_cm (c_ne C) (ve_callF h_purse hr rfl C (va_cons (ve_var 2) (va_nil))) (ve_int)) (vss_one (vs_ret (ve_bl))) (vss_nil)) (vss_cons (vs_if (vt_cm (c_ne C) (ve_callF h_purse hr rfl C (va_cons (ve_tup (va_cons (ve_tup (va_nil)) (va_cons (ve_var 0) (va_cons (ve_var 1) (va_nil))))) (va_nil))) (ve_int)) (vss_one (vs_ret (ve_bl))) (vss_nil)) (vss_cons (vs_if (vt_cm (c_ne C) (ve_callF h_purse hr rfl C (va_cons (ve_var 3) (va_nil))) (ve_int)) (vss_one (vs_ret (ve_bl))) (vss_nil)) (vss_cons (vs_if (vt_cm (c_ne C) (ve_callF h_purse hr rfl C (va_cons (ve_tup (va_nil)) (va_nil))) (ve_int)) (vss_one (vs_ret (ve_bl))) (vss_nil)) (vss_one (vs_ret (ve_cm (c_eq C) (ve_callF h_purse hr rfl C (va_cons (ve_tup (va_cons (ve_var 1) (va_cons (ve_var 0) (va_cons (ve_tup (va_nil)) (va_nil))))) (va_nil))) (ve_int)))))))))))))))))
theorem all_l_turns_right (t : Top K mg T) : ∀ k, Fn P w K mg base T k "_law_turns_right" 1 (m_l_turns_right k)
  | 0 => fn_zero t.d_l_turns_right rfl
  | k + 1 => fn_mk t.d_l_turns_right sc_l_turns_right (bd_l_turns_right t (all_l_leaf t k) (all_turn_join t k) (all_turn_take t k) (all_purse t k))
abbrev s_l_pile_refused_right : Stmt := top 92
abbrev N_l_pile_refused_right : List Str := ["_law_low", "_law_full", "_law_shared", "_law_tree", "_law_at", "_law_two"]
theorem sc_l_pile_refused_right : FnScope N_l_pile_refused_right ["_law_low"] (defScope s_l_pile_refused_right) := ⟨rfl, rfl, rfl, by decide +kernel, rfl, by decide +kernel, by decide +kernel⟩
theorem bd_l_pile_refused_right {k : Nat} {c_pile_of : List SV → R} {c_l_leaf : List SV → R} {c_W_pile_put : List SV → R} {c_L_l_sort : (List SV → R) → List SV → R} {c_W_keys_of : List SV → R} {c_W_purse : List SV → R} {c_W_pile_keys : List SV → R} {c_W_pile_take : List SV → R} (t : Top K mg T) (h_pile_of : Fn P w K mg base T (k + 2) "pile_of" 1 c_pile_of) (h_l_leaf : Fn P w K mg base T (k + 2) "_law_leaf" 1 c_l_leaf) (h_W_pile_put : ∀ (B' : Heap) (T' : Ct), Top K mg T' → Fn P w K mg B' T' k "pile_put" 2 c_W_pile_put) (h_L_l_sort : ∀ (B' : Heap) (f : Addr) (G' : Hp) (m1 : List SV → R), FnV P w K mg B' (T.cal (fun _ => f) G') (k + 1) f 1 m1 → Fn P w K mg B' (T.cal (fun _ => f) G') (k + 2) "_law_sort" 2 (c_L_l_sort m1)) (h_W_keys_of : ∀ (B' : Heap) (T' : Ct), Top K mg T' → Fn P w K mg B' T' k "keys_of" 1 c_W_keys_of) (h_W_purse : ∀ (B' : Heap) (T' : Ct), Top K mg T' → Fn P w K mg B' T' k "purse" 1 c_W_purse) (h_W_pile_keys : ∀ (B' : Heap) (T' : Ct), Top K mg T' → Fn P w K mg B' T' k "pile_keys" 1 c_W_pile_keys) (h_W_pile_take : ∀ (B' : Heap) (T' : Ct), Top K mg T' → Fn P w K mg B' T' k "pile_take" 1 c_W_pile_take) : BdC P w K mg base T (k + 2) N_l_pile_refused_right "_law_pile_refused_right" s_l_pile_refused_right (b_l_pile_refused_right c_pile_of c_l_leaf c_W_pile_put c_L_l_sort c_W_keys_of c_W_purse c_W_pile_keys c_W_pile_take) := by
  intro f c Pt A outer s0 H E B TB hP hr C po tk
  unfold b_l_pile_refused_right p_l_pile_refused_right_1
  exact vss_cons (vs_unp (ve_tup (va_cons (ve_ix (ve_callF h_pile_of hr rfl C (va_cons (ve_mul (ve_lst (va_cons (ve_var 0) (va_nil))) (ve_int)) (va_nil))) (ve_int)) (va_cons (ve_callF h_l_leaf hr rfl C (va_cons (ve_var 0) (va_nil))) (va_cons (ve_tup (va_cons (ve_var 0) (va_cons (ve_lst (va_nil)) (va_nil)))) (va_nil))))) tr_3 (pg_tup rfl (pgs_cons (pg_name (i := 1) C.nd rfl (by first | exact Or.inl rfl | exact Or.inr rfl)) (pgs_cons (pg_name (i := 2) C.nd rfl (by first | exact Or.inl rfl | exact Or.inr rfl)) (pgs_cons (pg_name (i := 3) C.nd rfl (by first | exact Or.inl rfl | exact Or.inr rfl)) (pgs_nil)))))) (vss_cons (vs_for C po (vi_range1 ⟨rfl, t.b_range⟩ (va_cons (ve_int) (va_nil))) tr_name (pg_name (i := 4) C.nd rfl (by first | exact Or.inl rfl | exact Or.inr rfl)) (vss_one (vs_set 2 C (ve_tup (va_cons (ve_var 2) (va_cons (ve_var 0) (va_cons (ve_var 2) (va_nil)))))))) (vss_cons (vs_if (vt_cm (c_ne C) (ve_callL (p := "_law_key") (ys := ["_law_full"]) (js := [1]) C hr rfl (df_at t.d_l_sort) h_L_l_sort TB rfl hP rfl (lamOk_by (N := N_l_pile_refused_right) (sc := defScope s_l_pile_refused_right) (by decide +kernel)) (fun B' f c1 G' q cl A ou s H E Bd hr C => ve_callF (h_W_pile_put B' _ (t.cal (fun _ => f) [] G')) hr rfl C (va_cons (ve_var 1) (va_cons (ve_var 0) (va_nil)))) (va_cons (ve_var 0) (va_nil)) (fun _ _ _ _ _ us hl => match us, hl with | [_], _ => rfl)) (ve_str)) (vss_one (vs_ret (ve_bl))) (vss_nil)) (vss_cons (vs_if (vt_cm (c_ne C) (ve_callL (p := "_law_one") (ys := []) (js := []) C hr rfl (df_at t.d_l_sort) h_L_l_sort TB rfl hP rfl (lamOk_by (N := N_l_pile_refused_right) (sc := defScope s_l_pile_refused_right) (by decide +kernel)) (fun B' f c1 G' q cl A ou s H E Bd hr C => ve_callF (h_W_keys_of B' _ (t.cal (fun _ => f) [] G')) hr rfl C (va_cons (ve_var 0) (va_nil))) (va_cons (ve_var 2) (va_nil)) (fun _ _ _ _ _ us hl => match us, hl with | [_], _ => rfl)) (ve_str)) (vss_one (vs_ret (ve_bl))) (vss_nil)) (vss_cons (vs_if (vt_cm (c_ne C) (ve_callL (p := "_law_one") (ys := []) (js := []) C hr rfl (df_at t.d_l_sort) h_L_l_sort TB rfl hP rfl (lamOk_by (N := N_l_pile_refused_right) (sc := defScope s_l_pile_refused_right) (by decide +kernel)) (fun B' f c1 G' q cl A ou s H E Bd hr C => ve_callF (h_W_purse B' _ (t.cal (fun _ => f) [] G')) hr rfl C (va_cons (ve_var 0) (va_nil))) (va_cons (ve_var 2) (va_nil)) (fun _ _ _ _ _ us hl => match us, hl with | [_], _ => rfl)) (ve_str)) (vss_one (vs_ret (ve_bl))) (vss_nil)) (vss_cons (vs_set 5 C (ve_tup (va_cons (ve_var 0) (va_cons (ve_lst (va_cons (ve_var 3) (va_nil))) (va_nil))))) (vss_cons (vs_if (vt_cm (c_ne C) (ve_callL (p := "_law_one") (ys := []) (js := []) C hr rfl (df_at t.d_l_sort) h_L_l_sort TB rfl hP rfl (lamOk_by (N := N_l_pile_refused_right) (sc := defScope s_l_pile_refused_right) (by decide +kernel)) (fun B' f c1 G' q cl A ou s H E Bd hr C => ve_callF (h_W_pile_keys B' _ (t.cal (fun _ => f) [] G')) hr rfl C (va_cons (ve_var 0) (va_nil))) (va_cons (ve_lst (va_cons (ve_var 5) (va_cons (ve_var 3) (va_nil)))) (va_nil)) (fun _ _ _ _ _ us hl => match us, hl with | [_], _ => rfl)) (ve_str)) (vss_one (vs_ret (ve_bl))) (vss_nil)) (vss_one (vs_ret (ve_cm (c_eq C) (ve_callL (p := "_law_one") (ys := []) (js := []) C hr rfl (df_at t.d_l_sort) h_L_l_sort TB rfl hP rfl (lamOk_by (N := N_l_pile_refused_right) (sc := defScope s_l_pile_refused_right) (by decide +kernel)) (fun B' f c1 G' q cl A ou s H E Bd hr C => ve_callF (h_W_pile_take B' _ (t.cal (fun _ => f) [] G')) hr rfl C (va_cons (ve_var 0) (va_nil))) (va_cons (ve_lst (va_cons (ve_var 3) (va_cons (ve_var 3) (va_nil)))) (va_nil)) (fun _ _ _ _ _ us hl => match us, hl with | [_], _ => rfl)) (ve_str))))))))))
theorem all_l_pile_refused_right (t : Top K mg T) (tm : TopM K mg base T) : ∀ k, Fn P w K mg base T k "_law_pile_refused_right" 1 (m_l_pile_refused_right k)
  | 0 => fn_no t.d_l_pile_refused_right rfl
  | 1 => fn_no t.d_l_pile_refused_right rfl
  | 2 => fn_no t.d_l_pile_refused_right rfl
  | k + 3 => fn_mkT t.d_l_pile_refused_right tm.mt_l_pile_refused_right sc_l_pile_refused_right (bd_l_pile_refused_right t (all_pile_of t (k + 2)) (all_l_leaf t (k + 2)) (fun B' T' t' => all_pile_put t' k) (fun B' f G' m1 V => all_l_sort (t.cal (fun _ => f) [] G') (fun _ => V)) (fun B' T' t' => all_keys_of t' k) (fun B' T' t' => all_purse t' k) (fun B' T' t' => all_pile_keys t' k) (fun B' T' t' => all_pile_take t' k))
abbrev s_l_piles_right : Stmt := top 91
abbrev N_l_piles_right : List Str := ["_law_low", "_law_many", "_law_pile", "_law_links", "_law_ones", "_law_three", "_law_lone", "_law_found", "_law_some", "_law_at", "_law_key", "_law_bit"]
theorem sc_l_piles_right : FnScope N_l_piles_right ["_law_low"] (defScope s_l_piles_right) := ⟨rfl, rfl, rfl, by decide +kernel, rfl, by decide +kernel, by decide +kernel⟩
theorem bd_l_piles_right {k : Nat} {c_pile_of : List SV → R} {c_pile_keys : List SV → R} {c_pile_join : List SV → R} {c_pile_put : List SV → R} {c_pile_take : List SV → R} {c_l_pile_refused_right : List SV → R} (t : Top K mg T) (h_pile_of : Fn P w K mg base T k "pile_of" 1 c_pile_of) (h_pile_keys : Fn P w K mg base T k "pile_keys" 1 c_pile_keys) (h_pile_join : Fn P w K mg base T k "pile_join" 2 c_pile_join) (h_pile_put : Fn P w K mg base T k "pile_put" 2 c_pile_put) (h_pile_take : Fn P w K mg base T k "pile_take" 1 c_pile_take) (h_l_pile_refused_right : Fn P w K mg base T k "_law_pile_refused_right" 1 c_l_pile_refused_right) : Bd P w K mg base T k N_l_piles_right "_law_piles_right" s_l_piles_right (b_l_piles_right c_pile_of c_pile_keys c_pile_join c_pile_put c_pile_take c_l_pile_refused_right) := by
  intro f cdv A outer s0 H E B hr C po tk
  unfold b_l_piles_right p_l_piles_right_2 p_l_piles_right_1
  exact vss_cons (vs_for C po (vi_range3 ⟨rfl, t.b_range⟩ (va_cons (ve_int) (va_cons (ve_int) (va_cons (ve_int) (va_nil))))) tr_name (pg_name (i := 1) C.nd rfl (by first | exact Or.inl rfl | exact Or.inr rfl)) (vss_cons (vs_unp (ve_callF h_pile_of hr rfl C (va_cons (ve_lc (own := [("_law_at", 9)]) C (vi_range1 ⟨rfl, t.b_range⟩ (va_cons (ve_var 1) (va_nil))) (blkOk_by (N := N_l_piles_right) (sc := defScope s_l_piles_right) (by decide +kernel)) tr_name (fun _ _ _ _ _ => pg_name (i := 9) C.nd rfl (by first | exact Or.inl rfl | exact Or.inr rfl)) (fun _ _ _ _ _ => vts_nil) (fun _ _ _ _ _ => ve_add (ve_var 0) (ve_mod (ve_mul (ve_var 9) (ve_int)) (ve_int)))) (va_nil))) tr_2 (pg_tup rfl (pgs_cons (pg_name (i := 2) C.nd rfl (by first | exact Or.inl rfl | exact Or.inr rfl)) (pgs_cons (pg_name (i := 3) C.nd rfl (by first | exact Or.inl rfl | exact Or.inr rfl)) (pgs_nil))))) (vss_cons (vs_set 4 C (ve_sum C ⟨rfl, t.b_sum⟩ (ve_lc (own := [("_law_bit", 11)]) C (vi_range1 ⟨rfl, t.b_range⟩ (va_cons (ve_int) (va_nil))) (blkOk_by (N := N_l_piles_right) (sc := defScope s_l_piles_right) (by decide +kernel)) tr_name (fun _ _ _ _ _ => pg_name (i := 11) C.nd rfl (by first | exact Or.inl rfl | exact Or.inr rfl)) (fun _ _ _ _ _ => vts_nil) (fun _ _ _ _ _ => ve_band (ve_shr (ve_var 1) (ve_var 11)) (ve_int))))) (vss_cons (vs_if (vt_cm (c_ne C) (ve_len ⟨rfl, t.b_len⟩ (ve_var 2)) (ve_var 4)) (vss_one (vs_ret (ve_bl))) (vss_nil)) (vss_cons (vs_if (vt_cm (c_ne C) (ve_var 3) (ve_sub (ve_var 1) (ve_var 4))) (vss_one (vs_ret (ve_bl))) (vss_nil)) (vss_one (vs_if (vt_cm (c_ne C) (ve_callF h_pile_keys hr rfl C (va_cons (ve_var 2) (va_nil))) (ve_sorted ⟨rfl, t.b_sorted⟩ (ve_lc (own := [("_law_at", 9)]) C (vi_range1 ⟨rfl, t.b_range⟩ (va_cons (ve_var 1) (va_nil))) (blkOk_by (N := N_l_piles_right) (sc := defScope s_l_piles_right) (by decide +kernel)) tr_name (fun _ _ _ _ _ => pg_name (i := 9) C.nd rfl (by first | exact Or.inl rfl | exact Or.inr rfl)) (fun _ _ _ _ _ => vts_nil) (fun _ _ _ _ _ => ve_add (ve_var 0) (ve_mod (ve_mul (ve_var 9) (ve_int)) (ve_int)))))) (vss_one (vs_ret (ve_bl))) (vss_nil)))))))) (vss_cons (vs_par2 5 6 false false C (ve_ix (ve_callF h_pile_of hr rfl C (va_cons (ve_lst (va_cons (ve_var 0) (va_cons (ve_add (ve_var 0) (ve_int)) (va_cons (ve_add (ve_var 0) (ve_int)) (va_nil))))) (va_nil))) (ve_int)) (ve_ix (ve_callF h_pile_of hr rfl C (va_cons (ve_lst (va_cons (ve_add (ve_var 0) (ve_int)) (va_nil))) (va_nil))) (ve_int))) (vss_cons (vs_unp (ve_callF h_pile_join hr rfl C (va_cons (ve_var 5) (va_cons (ve_var 6) (va_nil)))) tr_2 (pg_tup rfl (pgs_cons (pg_name (i := 7) C.nd rfl (by first | exact Or.inl rfl | exact Or.inr rfl)) (pgs_cons (pg_name (i := 3) C.nd rfl (by first | exact Or.inl rfl | exact Or.inr rfl)) (pgs_nil))))) (vss_cons (vs_if (vt_cm (c_ne C) (ve_var 3) (ve_int)) (vss_one (vs_ret (ve_bl))) (vss_nil)) (vss_cons (vs_if (vt_cm (c_ne C) (ve_len ⟨rfl, t.b_len⟩ (ve_var 7)) (ve_int)) (vss_one (vs_ret (ve_bl))) (vss_nil)) (vss_cons (vs_if (vt_cm (c_ne C) (ve_ix (ve_ix (ve_var 7) (ve_int)) (ve_int)) (ve_var 0)) (vss_one (vs_ret (ve_bl))) (vss_nil)) (vss_cons (vs_if (vt_cm (c_ne C) (ve_len ⟨rfl, t.b_len⟩ (ve_ix (ve_ix (ve_var 7) (ve_int)) (ve_int))) (ve_int)) (vss_one (vs_ret (ve_bl))) (vss_nil)) (vss_cons (vs_if (vt_cm (c_ne C) (ve_callF h_pile_put hr rfl C (va_cons (ve_lst (va_nil)) (va_cons (ve_var 0) (va_nil)))) (ve_tup (va_cons (ve_lst (va_cons (ve_tup (va_cons (ve_var 0) (va_cons (ve_lst (va_nil)) (va_nil)))) (va_nil))) (va_cons (ve_int) (va_nil))))) (vss_one (vs_ret (ve_bl))) (vss_nil)) (vss_cons (vs_if (vt_cm (c_ne C) (ve_ix (ve_callF h_pile_put hr rfl C (va_cons (ve_var 5) (va_cons (ve_add (ve_var 0) (ve_int)) (va_nil)))) (ve_int)) (ve_int)) (vss_one (vs_ret (ve_bl))) (vss_nil)) (vss_cons (vs_if (vt_cm (c_ne C) (ve_ix (ve_callF h_pile_join hr rfl C (va_cons (ve_lst (va_nil)) (va_cons (ve_lst (va_nil)) (va_nil)))) (ve_int)) (ve_lst (va_nil))) (vss_one (vs_ret (ve_bl))) (vss_nil)) (vss_cons (vs_if (vt_cm (c_ne C) (ve_ix (ve_callF h_pile_join hr rfl C (va_cons (ve_var 5) (va_cons (ve_lst (va_nil)) (va_nil)))) (ve_int)) (ve_int)) (vss_one (vs_ret (ve_bl))) (vss_nil)) (vss_cons (vs_if (vt_cm (c_ne C) (ve_callF h_pile_of hr rfl C (va_cons (ve_lst (va_nil)) (va_nil))) (ve_tup (va_cons (ve_lst (va_nil)) (va_cons (ve_int) (va_nil))))) (vss_one (vs_ret (ve_bl))) (vss_nil)) (vss_cons (vs_par2 2 8 false true C (ve_ix (ve_callF h_pile_of hr rfl C (va_cons (ve_lc (own := [("_law_at", 9)]) C (vi_range1 ⟨rfl, t.b_range⟩ (va_cons (ve_int) (va_nil))) (blkOk_by (N := N_l_piles_right) (sc := defScope s_l_piles_right) (by decide +kernel)) tr_name (fun _ _ _ _ _ => pg_name (i := 9) C.nd rfl (by first | exact Or.inl rfl | exact Or.inr rfl)) (fun _ _ _ _ _ => vts_nil) (fun _ _ _ _ _ => ve_add (ve_var 0) (ve_mod (ve_var 9) (ve_int)))) (va_nil))) (ve_int)) (ve_lst (va_nil))) (vss_cons (vs_for C po (vi_range1 ⟨rfl, t.b_range⟩ (va_cons (ve_int) (va_nil))) tr_name (pg_name (i := 9) C.nd rfl (by first | exact Or.inl rfl | exact Or.inr rfl)) (vss_cons (vs_unp (ve_callF h_pile_take hr rfl C (va_cons (ve_var 2) (va_nil))) tr_2 (pg_tup rfl (pgs_cons (pg_name (i := 10) C.nd rfl (by first | exact Or.inl rfl | exact Or.inr rfl)) (pgs_cons (pg_name (i := 2) C.nd rfl (by first | exact Or.inl rfl | exact Or.inr rfl)) (pgs_nil))))) (vss_one (vs_app 8 (ve_var 10))))) (vss_cons (vs_frz 8 (vs_if (vt_w (vw_or (vt_cm (c_ne C) (ve_var 8) (ve_sorted ⟨rfl, t.b_sorted⟩ (ve_lc (own := [("_law_at", 9)]) C (vi_range1 ⟨rfl, t.b_range⟩ (va_cons (ve_int) (va_nil))) (blkOk_by (N := N_l_piles_right) (sc := defScope s_l_piles_right) (by decide +kernel)) tr_name (fun _ _ _ _ _ => pg_name (i := 9) C.nd rfl (by first | exact Or.inl rfl | exact Or.inr rfl)) (fun _ _ _ _ _ => vts_nil) (fun _ _ _ _ _ => ve_add (ve_var 0) (ve_mod (ve_var 9) (ve_int)))))) (vw_or1 (vt_cm (c_ne C) (ve_var 2) (ve_lst (va_nil)))))) (vss_one (vs_ret (ve_bl))) (vss_nil))) (vss_one (vs_ret (ve_callF h_l_pile_refused_right hr rfl C (va_cons (ve_var 0) (va_nil)))))))))))))))))))
theorem all_l_piles_right (t : Top K mg T) (tm : TopM K mg base T) : ∀ k, Fn P w K mg base T k "_law_piles_right" 1 (m_l_piles_right k)
  | 0 => fn_zero t.d_l_piles_right rfl
  | k + 1 => fn_mk t.d_l_piles_right sc_l_piles_right (bd_l_piles_right t (all_pile_of t k) (all_pile_keys t k) (all_pile_join t k) (all_pile_put t k) (all_pile_take t k) (all_l_pile_refused_right t tm k))
abbrev s_law_k23 : Stmt := top 93
abbrev N_law_k23 : List Str := ["_law_script", "_law_low"]
theorem sc_law_k23 : FnScope N_law_k23 ["_law_script"] (defScope s_law_k23) := ⟨rfl, rfl, rfl, by decide +kernel, rfl, by decide +kernel, by decide +kernel⟩
theorem bd_law_k23 {k : Nat} {c_l_rows_right_k23 : List SV → R} {c_l_leaned_right_k23 : List SV → R} {c_l_heaps_right_k23 : List SV → R} {c_l_turns_right : List SV → R} {c_l_piles_right : List SV → R} (t : Top K mg T) (h_l_rows_right_k23 : Fn P w K mg base T k "_law_rows_right" 1 c_l_rows_right_k23) (h_l_leaned_right_k23 : Fn P w K mg base T k "_law_leaned_right" 1 c_l_leaned_right_k23) (h_l_heaps_right_k23 : Fn P w K mg base T k "_law_heaps_right" 1 c_l_heaps_right_k23) (h_l_turns_right : Fn P w K mg base T k "_law_turns_right" 1 c_l_turns_right) (h_l_piles_right : Fn P w K mg base T k "_law_piles_right" 1 c_l_piles_right) : Bd P w K mg base T k N_law_k23 "law" s_law_k23 (b_law_k23 c_l_rows_right_k23 c_l_leaned_right_k23 c_l_heaps_right_k23 c_l_turns_right c_l_piles_right) := by
  intro f cdv A outer s0 H E B hr C po tk
  unfold b_law_k23
  exact vss_cons (vs_set 1 C (ve_if (vt_cm (c_ne C) (ve_var 0) (ve_lst (va_nil))) (ve_mod (ve_ix (ve_var 0) (ve_int)) (ve_pow (ve_int) (ve_int))) (ve_int))) (vss_cons (vs_if (vt_w (vw_or (vt_not (vt_val (ve_callF h_l_rows_right_k23 hr rfl C (va_cons (ve_var 1) (va_nil))))) (vw_or (vt_not (vt_val (ve_callF h_l_leaned_right_k23 hr rfl C (va_cons (ve_var 1) (va_nil))))) (vw_or1 (vt_not (vt_val (ve_callF h_l_heaps_right_k23 hr rfl C (va_cons (ve_var 1) (va_nil))))))))) (vss_one (vs_ret (ve_bl))) (vss_nil)) (vss_one (vs_ret (ve_and (ve_callF h_l_turns_right hr rfl C (va_cons (ve_var 1) (va_nil))) (ve_one (ve_callF h_l_piles_right hr rfl C (va_cons (ve_var 1) (va_nil))))))))
theorem all_law_k23 (t : Top K mg T) (tm : TopM K mg base T) : ∀ k, Fn P w K mg base T k "law" 1 (m_law_k23 k)
  | 0 => fn_zero t.d_law_k23 rfl
  | k + 1 => fn_mk t.d_law_k23 sc_law_k23 (bd_law_k23 t (all_l_rows_right_k23 t k) (all_l_leaned_right_k23 t k) (all_l_heaps_right_k23 t tm k) (all_l_turns_right t k) (all_l_piles_right t tm k))
end
theorem law_fin {P : Program} {w : World} {K : PySem.W.Frag} {mg : Str → Option Value} {k : Nat} {h : Heap} (t : Top K mg (ctOf mg)) {fa : Addr} (hfa : mg "law" = some (.ref fa)) {c1 P1 c2 P2 : Addr} (x1 : TabX K mg h "_law_heaps_right" c1 P1) (x2 : TabX K mg h "_law_pile_refused_right" c2 P2) (hm : ∀ ns : List Int, ns.length ≤ 63 → (∀ z ∈ ns, Builtin.Int.intBits z ≤ 1048576) → m_law_k23 (k + 1) [.sh (.list (ns.map .int))] = .val (.sh (.bool true))) :
    ∃ (fd : FuncData) (cs : List (Addr × Addr)), TabF K h cs ∧ (∀ (s : Shared) (u : Value), BindsTo s fd ⟨[u], []⟩ [("_law_script", u)]) ∧ ∀ base : Heap, K.In base → (∀ p ∈ cs, LamX.TabB base mg p.1 p.2) → FnGd P w K mg base (L2.CX P w) (k + 1) fa fd ["_law_script"] (spLawT (cs.map (·.2))) := by
  obtain ⟨f, fd, F, hm2, hb⟩ := t.d_law_k23
  have e := hfa.symm.trans hm2
  cases e
  refine ⟨fd, [(c1, P1), (c2, P2)], .cons x1 (.cons x2 (.nil)), fun s u => ?_, fun base _ hT => ?_⟩
  · obtain ⟨_, _, _, _, _, _, _, _, _, rfl, _, _⟩ := F.ex
    exact .of_eq rfl
  have t := t.cal (fun _ => 0) [P1, P2] (fun _ => none)
  have tm : TopM K mg base { ctOf mg with fv := fun _ => 0, tb := [P1, P2], gc := fun _ => none } := ⟨⟨c1, P1, hT _ (.head _), (.head _), x1.co⟩, ⟨c2, P2, hT _ (.tail _ (.head _)), (.tail _ (.head _)), x2.co⟩⟩
  exact FnGd.weak (fn_ok F sc_law_k23 (fun cdv A outer s0 H E B hr C po tk => bd_law_k23 t (all_l_rows_right_k23 t k) (all_l_leaned_right_k23 t k) (all_l_heaps_right_k23 t tm k) (all_l_turns_right t k) (all_l_piles_right t tm k) fa cdv A outer s0 H E B hr C po tk)) (law_impT (T := { ctOf mg with fv := fun _ => 0, tb := [P1, P2], gc := fun _ => none }) rfl rfl hm)

abbrev LEVEL : Nat := 200
theorem law_main : ∀ ns : List Int, ns.length ≤ 63 → (∀ z ∈ ns, bits z ≤ 1048576) → m_law_k23 (LEVEL + 1) [.sh (.list (ns.map .int))] = .val (.sh (.bool true)) := law_main_k23

end HM
open PySem PySem.W PyProof.Rows
set_option maxRecDepth 100000 in
set_option maxHeartbeats 0 in
theorem PySem.Challenge.cw_heapmeld_k23_promises_by_hand_holds : PySem.Challenge.rw_heapmeld_k23_promises_by_hand.Holds := by
  w_on; o_law; k_head; (case hw => w_witness2)
  k_fill
  refine VL.walkT (l := PySem.Challenge.rw_heapmeld_k23_promises_by_hand) (k := HM.LEVEL + 1) ⟨rfl, by decide, by decide⟩ rfl rfl (fun w h Y => PySem.W.km_in_of Y) ?L ?F
  case L => intro w; kernel_rfl
  case F =>
    intro w s0 mg mb fa h KX G hmg GR Y
    refine' HM.law_fin (k := HM.LEVEL) ?tt hmg (VL.tabX_mk (x := "_law_heaps_right") (q := "_law_heaps_right") (st := HM.s_l_heaps_right_k23) KX G ?a0 ?l0 ?v0 ?w0 ?d0 ?n0 ?e0) (VL.tabX_mk (x := "_law_pile_refused_right") (q := "_law_pile_refused_right") (st := HM.s_l_pile_refused_right) KX G ?a1 ?l1 ?v1 ?w1 ?d1 ?n1 ?e1) HM.law_main
    (case a0 => k_is); (case l0 => k_is); (case v0 => k_is)
    (case w0 => rfl); (case d0 => (first | kernel_rfl | k_is)); (case n0 => (first | k_is | kernel_rfl)); (case e0 => exact PySem.W.km_tabs_of Y _ (by decide))
    (case a1 => k_is); (case l1 => k_is); (case v1 => k_is)
    (case w1 => rfl); (case d1 => (first | kernel_rfl | k_is)); (case n1 => (first | k_is | kernel_rfl)); (case e1 => exact PySem.W.km_tabs_of Y _ (by decide))
    constructor
    case d_rank_of =>
      refine' VL.df_mk KX G ?a ?l ?c ?k ?b
      (case a => k_is); (case l => k_is); (case c => k_is); (case k => k_is)
      (case b => exact fun _ _ _ _ _ _ us hl => match us, hl with | [_], _ => rfl)
    case d_knot_at =>
      refine' VL.df_mk KX G ?a ?l ?c ?k ?b
      (case a => k_is); (case l => k_is); (case c => k_is); (case k => k_is)
      (case b => exact fun _ _ _ _ _ _ us hl => match us, hl with | [_, _], _ => rfl)
    case d_slants =>
      refine' VL.df_mk KX G ?a ?l ?c ?k ?b
      (case a => k_is); (case l => k_is); (case c => k_is); (case k => k_is)
      (case b => exact fun _ _ _ _ _ _ us hl => match us, hl with | [_], _ => rfl)
    case d_slanting =>
      refine' VL.df_mk KX G ?a ?l ?c ?k ?b
      (case a => k_is); (case l => k_is); (case c => k_is); (case k => k_is)
      (case b => exact fun _ _ _ _ _ _ us hl => match us, hl with | [_, _], _ => rfl)
    case d_exchanged =>
      refine' VL.df_mk KX G ?a ?l ?c ?k ?b
      (case a => k_is); (case l => k_is); (case c => k_is); (case k => k_is)
      (case b => exact fun _ _ _ _ _ _ us hl => match us, hl with | [_, _, _], _ => rfl)
    case d_Leans_shows =>
      refine' VL.dm_mk KX G ?a rfl ?g ?n ?l ?c ?k ?b
      (case a => k_is); (case g => k_is); (case n => k_is); (case l => k_is); (case c => k_is); (case k => k_is)
      (case b => exact fun _ _ _ _ _ _ us hl => match us, hl with | [_, _], _ => rfl)
    case d_Slants_shows =>
      refine' VL.dm_mk KX G ?a rfl ?g ?n ?l ?c ?k ?b
      (case a => k_is); (case g => k_is); (case n => k_is); (case l => k_is); (case c => k_is); (case k => k_is)
      (case b => exact fun _ _ _ _ _ _ us hl => match us, hl with | [_, _], _ => rfl)
    case d_Leaned_shows =>
      refine' VL.dm_mk KX G ?a rfl ?g ?n ?l ?c ?k ?b
      (case a => k_is); (case g => k_is); (case n => k_is); (case l => k_is); (case c => k_is); (case k => k_is)
      (case b => exact fun _ _ _ _ _ _ us hl => match us, hl with | [_, _], _ => rfl)
    case d_is_key =>
      refine' VL.df_mk KX G ?a ?l ?c ?k ?b
      (case a => k_is); (case l => k_is); (case c => k_is); (case k => k_is)
      (case b => exact fun _ _ _ _ _ _ us hl => match us, hl with | [_], _ => rfl)
    case d_is_form =>
      refine' VL.df_mk KX G ?a ?l ?c ?k ?b
      (case a => k_is); (case l => k_is); (case c => k_is); (case k => k_is)
      (case b => exact fun _ _ _ _ _ _ us hl => match us, hl with | [_], _ => rfl)
    case d_is_ordered =>
      refine' VL.df_mk KX G ?a ?l ?c ?k ?b
      (case a => k_is); (case l => k_is); (case c => k_is); (case k => k_is)
      (case b => exact fun _ _ _ _ _ _ us hl => match us, hl with | [_], _ => rfl)
    case d_check_heap =>
      refine' VL.df_mk KX G ?a ?l ?c ?k ?b
      (case a => k_is); (case l => k_is); (case c => k_is); (case k => k_is)
      (case b => exact fun _ _ _ _ _ _ us hl => match us, hl with | [_], _ => rfl)
    case d_check_key =>
      refine' VL.df_mk KX G ?a ?l ?c ?k ?b
      (case a => k_is); (case l => k_is); (case c => k_is); (case k => k_is)
      (case b => exact fun _ _ _ _ _ _ us hl => match us, hl with | [_], _ => rfl)
    case d_check_keys =>
      refine' VL.df_mk KX G ?a ?l ?c ?k ?b
      (case a => k_is); (case l => k_is); (case c => k_is); (case k => k_is)
      (case b => exact fun _ _ _ _ _ _ us hl => match us, hl with | [_], _ => rfl)
    case d_row_from =>
      refine' VL.df_mk KX G ?a ?l ?c ?k ?b
      (case a => k_is); (case l => k_is); (case c => k_is); (case k => k_is)
      (case b => exact fun _ _ _ _ _ _ us hl => match us, hl with | [_], _ => rfl)
    case d_size_of =>
      refine' VL.df_mk KX G ?a ?l ?c ?k ?b
      (case a => k_is); (case l => k_is); (case c => k_is); (case k => k_is)
      (case b => exact fun _ _ _ _ _ _ us hl => match us, hl with | [_], _ => rfl)
    case d_keys_of =>
      refine' VL.df_mk KX G ?a ?l ?c ?k ?b
      (case a => k_is); (case l => k_is); (case c => k_is); (case k => k_is)
      (case b => exact fun _ _ _ _ _ _ us hl => match us, hl with | [_], _ => rfl)
    case d_check_both =>
      refine' VL.df_mk KX G ?a ?l ?c ?k ?b
      (case a => k_is); (case l => k_is); (case c => k_is); (case k => k_is)
      (case b => exact fun _ _ _ _ _ _ us hl => match us, hl with | [_, _], _ => rfl)
    case d_check_leaning =>
      refine' VL.df_mk KX G ?a ?l ?c ?k ?b
      (case a => k_is); (case l => k_is); (case c => k_is); (case k => k_is)
      (case b => exact fun _ _ _ _ _ _ us hl => match us, hl with | [_], _ => rfl)
    case d_rank =>
      refine' VL.df_mk KX G ?a ?l ?c ?k ?b
      (case a => k_is); (case l => k_is); (case c => k_is); (case k => k_is)
      (case b => exact fun _ _ _ _ _ _ us hl => match us, hl with | [_], _ => rfl)
    case d_judged =>
      refine' VL.df_mk KX G ?a ?l ?c ?k ?b
      (case a => k_is); (case l => k_is); (case c => k_is); (case k => k_is)
      (case b => exact fun _ _ _ _ _ _ us hl => match us, hl with | [_], _ => rfl)
    case d_leaning_knot =>
      refine' VL.df_mk KX G ?a ?l ?c ?k ?b
      (case a => k_is); (case l => k_is); (case c => k_is); (case k => k_is)
      (case b => exact fun _ _ _ _ _ _ us hl => match us, hl with | [_, _, _], _ => rfl)
    case d_joinL =>
      refine' VL.df_mk KX G ?a ?l ?c ?k ?b
      (case a => k_is); (case l => k_is); (case c => k_is); (case k => k_is)
      (case b => exact fun _ _ _ _ _ _ us hl => match us, hl with | [_, _], _ => rfl)
    case d_lean_join =>
      refine' VL.df_mk KX G ?a ?l ?c ?k ?b
      (case a => k_is); (case l => k_is); (case c => k_is); (case k => k_is)
      (case b => exact fun _ _ _ _ _ _ us hl => match us, hl with | [_, _], _ => rfl)
    case d_lean_take =>
      refine' VL.df_mk KX G ?a ?l ?c ?k ?b
      (case a => k_is); (case l => k_is); (case c => k_is); (case k => k_is)
      (case b => exact fun _ _ _ _ _ _ us hl => match us, hl with | [_], _ => rfl)
    case d_lean_of =>
      refine' VL.df_mk KX G ?a ?l ?c ?k ?b
      (case a => k_is); (case l => k_is); (case c => k_is); (case k => k_is)
      (case b => exact fun _ _ _ _ _ _ us hl => match us, hl with | [_], _ => rfl)
    case d_leaned =>
      refine' VL.df_mk KX G ?a ?l ?c ?k ?b
      (case a => k_is); (case l => k_is); (case c => k_is); (case k => k_is)
      (case b => exact fun _ _ _ _ _ _ us hl => match us, hl with | [_], _ => rfl)
    case d_check_count =>
      refine' VL.df_mk KX G ?a ?l ?c ?k ?b
      (case a => k_is); (case l => k_is); (case c => k_is); (case k => k_is)
      (case b => exact fun _ _ _ _ _ _ us hl => match us, hl with | [_], _ => rfl)
    case d_many_of =>
      refine' VL.df_mk KX G ?a ?l ?c ?k ?b
      (case a => k_is); (case l => k_is); (case c => k_is); (case k => k_is)
      (case b => exact fun _ _ _ _ _ _ us hl => match us, hl with | [_, _, _], _ => rfl)
    case d_at_least =>
      refine' VL.df_mk KX G ?a ?l ?c ?k ?b
      (case a => k_is); (case l => k_is); (case c => k_is); (case k => k_is)
      (case b => exact fun _ _ _ _ _ _ us hl => match us, hl with | [_, _, _], _ => rfl)
    case d_parted =>
      refine' VL.df_mk KX G ?a ?l ?c ?k ?b
      (case a => k_is); (case l => k_is); (case c => k_is); (case k => k_is)
      (case b => exact fun _ _ _ _ _ _ us hl => match us, hl with | [_, _, _], _ => rfl)
    case d_how_many =>
      refine' VL.df_mk KX G ?a ?l ?c ?k ?b
      (case a => k_is); (case l => k_is); (case c => k_is); (case k => k_is)
      (case b => exact fun _ _ _ _ _ _ us hl => match us, hl with | [_], _ => rfl)
    case d_shape_from =>
      refine' VL.df_mk KX G ?a ?l ?c ?k ?b
      (case a => k_is); (case l => k_is); (case c => k_is); (case k => k_is)
      (case b => exact fun _ _ _ _ _ _ us hl => match us, hl with | [_, _, _, _], _ => rfl)
    case d_shape_by =>
      refine' VL.df_mk KX G ?a ?l ?c ?k ?b
      (case a => k_is); (case l => k_is); (case c => k_is); (case k => k_is)
      (case b => exact fun _ _ _ _ _ _ us hl => match us, hl with | [_, _], _ => rfl)
    case d_number_in =>
      refine' VL.df_mk KX G ?a ?l ?c ?k ?b
      (case a => k_is); (case l => k_is); (case c => k_is); (case k => k_is)
      (case b => exact fun _ _ _ _ _ _ us hl => match us, hl with | [_, _, _], _ => rfl)
    case d_number_of =>
      refine' VL.df_mk KX G ?a ?l ?c ?k ?b
      (case a => k_is); (case l => k_is); (case c => k_is); (case k => k_is)
      (case b => exact fun _ _ _ _ _ _ us hl => match us, hl with | [_], _ => rfl)
    case d_order_of =>
      refine' VL.df_mk KX G ?a ?l ?c ?k ?b
      (case a => k_is); (case l => k_is); (case c => k_is); (case k => k_is)
      (case b => exact fun _ _ _ _ _ _ us hl => match us, hl with | [_], _ => rfl)
    case d_is_tree =>
      refine' VL.df_mk KX G ?a ?l ?c ?k ?b
      (case a => k_is); (case l => k_is); (case c => k_is); (case k => k_is)
      (case b => exact fun _ _ _ _ _ _ us hl => match us, hl with | [_, _], _ => rfl)
    case d_is_pile =>
      refine' VL.df_mk KX G ?a ?l ?c ?k ?b
      (case a => k_is); (case l => k_is); (case c => k_is); (case k => k_is)
      (case b => exact fun _ _ _ _ _ _ us hl => match us, hl with | [_], _ => rfl)
    case d_check_pile =>
      refine' VL.df_mk KX G ?a ?l ?c ?k ?b
      (case a => k_is); (case l => k_is); (case c => k_is); (case k => k_is)
      (case b => exact fun _ _ _ _ _ _ us hl => match us, hl with | [_], _ => rfl)
    case d_count_of =>
      refine' VL.df_mk KX G ?a ?l ?c ?k ?b
      (case a => k_is); (case l => k_is); (case c => k_is); (case k => k_is)
      (case b => exact fun _ _ _ _ _ _ us hl => match us, hl with | [_], _ => rfl)
    case d_copied =>
      refine' VL.df_mk KX G ?a ?l ?c ?k ?b
      (case a => k_is); (case l => k_is); (case c => k_is); (case k => k_is)
      (case b => exact fun _ _ _ _ _ _ us hl => match us, hl with | [_], _ => rfl)
    case d_linked =>
      refine' VL.df_mk KX G ?a ?l ?c ?k ?b
      (case a => k_is); (case l => k_is); (case c => k_is); (case k => k_is)
      (case b => exact fun _ _ _ _ _ _ us hl => match us, hl with | [_, _], _ => rfl)
    case d_joinP =>
      refine' VL.df_mk KX G ?a ?l ?c ?k ?b
      (case a => k_is); (case l => k_is); (case c => k_is); (case k => k_is)
      (case b => exact fun _ _ _ _ _ _ us hl => match us, hl with | [_, _], _ => rfl)
    case d_keys_in =>
      refine' VL.df_mk KX G ?a ?l ?c ?k ?b
      (case a => k_is); (case l => k_is); (case c => k_is); (case k => k_is)
      (case b => exact fun _ _ _ _ _ _ us hl => match us, hl with | [_], _ => rfl)
    case d_pile_keys =>
      refine' VL.df_mk KX G ?a ?l ?c ?k ?b
      (case a => k_is); (case l => k_is); (case c => k_is); (case k => k_is)
      (case b => exact fun _ _ _ _ _ _ us hl => match us, hl with | [_], _ => rfl)
    case d_pile_join =>
      refine' VL.df_mk KX G ?a ?l ?c ?k ?b
      (case a => k_is); (case l => k_is); (case c => k_is); (case k => k_is)
      (case b => exact fun _ _ _ _ _ _ us hl => match us, hl with | [_, _], _ => rfl)
    case d_pile_put =>
      refine' VL.df_mk KX G ?a ?l ?c ?k ?b
      (case a => k_is); (case l => k_is); (case c => k_is); (case k => k_is)
      (case b => exact fun _ _ _ _ _ _ us hl => match us, hl with | [_, _], _ => rfl)
    case d_pile_take =>
      refine' VL.df_mk KX G ?a ?l ?c ?k ?b
      (case a => k_is); (case l => k_is); (case c => k_is); (case k => k_is)
      (case b => exact fun _ _ _ _ _ _ us hl => match us, hl with | [_], _ => rfl)
    case d_pile_of =>
      refine' VL.df_mk KX G ?a ?l ?c ?k ?b
      (case a => k_is); (case l => k_is); (case c => k_is); (case k => k_is)
      (case b => exact fun _ _ _ _ _ _ us hl => match us, hl with | [_], _ => rfl)
    case d_heap_from =>
      refine' VL.df_mk KX G ?a ?l ?c ?k ?b
      (case a => k_is); (case l => k_is); (case c => k_is); (case k => k_is)
      (case b => exact fun _ _ _ _ _ _ us hl => match us, hl with | [_], _ => rfl)
    case d_heap_of =>
      refine' VL.df_mk KX G ?a ?l ?c ?k ?b
      (case a => k_is); (case l => k_is); (case c => k_is); (case k => k_is)
      (case b => exact fun _ _ _ _ _ _ us hl => match us, hl with | [_], _ => rfl)
    case d_row_of =>
      refine' VL.df_mk KX G ?a ?l ?c ?k ?b
      (case a => k_is); (case l => k_is); (case c => k_is); (case k => k_is)
      (case b => exact fun _ _ _ _ _ _ us hl => match us, hl with | [_], _ => rfl)
    case d_sizes_of =>
      refine' VL.df_mk KX G ?a ?l ?c ?k ?b
      (case a => k_is); (case l => k_is); (case c => k_is); (case k => k_is)
      (case b => exact fun _ _ _ _ _ _ us hl => match us, hl with | [_], _ => rfl)
    case d_how_many_rows =>
      refine' VL.df_mk KX G ?a ?l ?c ?k ?b
      (case a => k_is); (case l => k_is); (case c => k_is); (case k => k_is)
      (case b => exact fun _ _ _ _ _ _ us hl => match us, hl with | [_], _ => rfl)
    case d_joinT =>
      refine' VL.df_mk KX G ?a ?l ?c ?k ?b
      (case a => k_is); (case l => k_is); (case c => k_is); (case k => k_is)
      (case b => exact fun _ _ _ _ _ _ us hl => match us, hl with | [_, _], _ => rfl)
    case d_turn_join =>
      refine' VL.df_mk KX G ?a ?l ?c ?k ?b
      (case a => k_is); (case l => k_is); (case c => k_is); (case k => k_is)
      (case b => exact fun _ _ _ _ _ _ us hl => match us, hl with | [_, _], _ => rfl)
    case d_turn_take =>
      refine' VL.df_mk KX G ?a ?l ?c ?k ?b
      (case a => k_is); (case l => k_is); (case c => k_is); (case k => k_is)
      (case b => exact fun _ _ _ _ _ _ us hl => match us, hl with | [_], _ => rfl)
    case d_purse_of =>
      refine' VL.df_mk KX G ?a ?l ?c ?k ?b
      (case a => k_is); (case l => k_is); (case c => k_is); (case k => k_is)
      (case b => exact fun _ _ _ _ _ _ us hl => match us, hl with | [_], _ => rfl)
    case d_purse =>
      refine' VL.df_mk KX G ?a ?l ?c ?k ?b
      (case a => k_is); (case l => k_is); (case c => k_is); (case k => k_is)
      (case b => exact fun _ _ _ _ _ _ us hl => match us, hl with | [_], _ => rfl)
    case d_l_leaf =>
      refine' VL.df_mk KX G ?a ?l ?c ?k ?b
      (case a => k_is); (case l => k_is); (case c => k_is); (case k => k_is)
      (case b => exact fun _ _ _ _ _ _ us hl => match us, hl with | [_], _ => rfl)
    case d_l_sort =>
      refine' VL.df_mk KX G ?a ?l ?c ?k ?b
      (case a => k_is); (case l => k_is); (case c => k_is); (case k => k_is)
      (case b => exact fun _ _ _ _ _ _ us hl => match us, hl with | [_, _], _ => rfl)
    case d_l_rows_right_k23 =>
      refine' VL.df_mk KX G ?a ?l ?c ?k ?b
      (case a => k_is); (case l => k_is); (case c => k_is); (case k => k_is)
      (case b => exact fun _ _ _ _ _ _ us hl => match us, hl with | [_], _ => rfl)
    case d_l_leaned_right_k23 =>
      refine' VL.df_mk KX G ?a ?l ?c ?k ?b
      (case a => k_is); (case l => k_is); (case c => k_is); (case k => k_is)
      (case b => exact fun _ _ _ _ _ _ us hl => match us, hl with | [_], _ => rfl)
    case d_l_inner_right =>
      refine' VL.df_mk KX G ?a ?l ?c ?k ?b
      (case a => k_is); (case l => k_is); (case c => k_is); (case k => k_is)
      (case b => exact fun _ _ _ _ _ _ us hl => match us, hl with | [_], _ => rfl)
    case d_l_heaps_right_k23 =>
      refine' VL.df_mk KX G ?a ?l ?c ?k ?b
      (case a => k_is); (case l => k_is); (case c => k_is); (case k => k_is)
      (case b => exact fun _ _ _ _ _ _ us hl => match us, hl with | [_], _ => rfl)
    case d_l_turns_right =>
      refine' VL.df_mk KX G ?a ?l ?c ?k ?b
      (case a => k_is); (case l => k_is); (case c => k_is); (case k => k_is)
      (case b => exact fun _ _ _ _ _ _ us hl => match us, hl with | [_], _ => rfl)
    case d_l_piles_right =>
      refine' VL.df_mk KX G ?a ?l ?c ?k ?b
      (case a => k_is); (case l => k_is); (case c => k_is); (case k => k_is)
      (case b => exact fun _ _ _ _ _ _ us hl => match us, hl with | [_], _ => rfl)
    case d_l_pile_refused_right =>
      refine' VL.df_mk KX G ?a ?l ?c ?k ?b
      (case a => k_is); (case l => k_is); (case c => k_is); (case k => k_is)
      (case b => exact fun _ _ _ _ _ _ us hl => match us, hl with | [_], _ => rfl)
    case d_law_k23 =>
      refine' VL.df_mk KX G ?a ?l ?c ?k ?b
      (case a => k_is); (case l => k_is); (case c => k_is); (case k => k_is)
      (case b => exact fun _ _ _ _ _ _ us hl => match us, hl with | [_], _ => rfl)
    case b_min =>
      exact VL.no_mk KX G (by k_is)
    case c_Slants =>
      refine' VL.oc_mk KX G ?a rfl ?cl ?na ?ha ?hn ?ht ?hm ?mk ?kp
      (case a => k_is); (case cl => exact ⟨by k_is, by k_is, by k_is, by k_is⟩); (case na => exact VL.na1 (by k_is)); (case ha => k_is); (case hn => k_is); (case ht => k_is); (case hm => k_is); (case mk => k_is); (case kp => k_is)
    case c_Leaned =>
      refine' VL.oc_mk KX G ?a rfl ?cl ?na ?ha ?hn ?ht ?hm ?mk ?kp
      (case a => k_is); (case cl => exact ⟨by k_is, by k_is, by k_is, by k_is⟩); (case na => exact VL.na2 (by k_is) (by k_is)); (case ha => k_is); (case hn => k_is); (case ht => k_is); (case hm => k_is); (case mk => k_is); (case kp => k_is)
    case b_zip =>
      exact VL.no_mk KX G (by k_is)
    case b_any =>
      exact VL.no_mk KX G (by k_is)
    case b_all =>
      exact VL.no_mk KX G (by k_is)
    case b_isinstance =>
      exact VL.no_mk KX G (by k_is)
    case b_int =>
      exact VL.no_mk KX G (by k_is)
    case b_bool =>
      exact VL.no_mk KX G (by k_is)
    case b_tuple =>
      exact VL.no_mk KX G (by k_is)
    case b_len =>
      exact VL.no_mk KX G (by k_is)
    case k_MOST =>
      refine' VL.k_mk KX G ?a
      (case a => k_is)
    case e_BadHeap =>
      refine' VL.er_mk KX G ?a ?e ?k ?s ?t
      (case a => k_is); (case e => k_exc); (case k => k_is); (case s => k_is); (case t => k_is)
    case e_BadKey =>
      refine' VL.er_mk KX G ?a ?e ?k ?s ?t
      (case a => k_is); (case e => k_exc); (case k => k_is); (case s => k_is); (case t => k_is)
    case b_list =>
      exact VL.no_mk KX G (by k_is)
    case b_sorted =>
      exact VL.no_mk KX G (by k_is)
    case e_TooMany =>
      refine' VL.er_mk KX G ?a ?e ?k ?s ?t
      (case a => k_is); (case e => k_exc); (case k => k_is); (case s => k_is); (case t => k_is)
    case e_NotLeaning =>
      refine' VL.er_mk KX G ?a ?e ?k ?s ?t
      (case a => k_is); (case e => k_exc); (case k => k_is); (case s => k_is); (case t => k_is)
    case z_Leans =>
      refine' VL.z_mk KX G ?a rfl ?g
      (case a => k_is); (case g => k_is)
    case c_Leans =>
      refine' VL.oc_mk KX G ?a rfl ?cl ?na ?ha ?hn ?ht ?hm ?mk ?kp
      (case a => k_is); (case cl => exact ⟨by k_is, by k_is, by k_is, by k_is⟩); (case na => exact VL.na0); (case ha => k_is); (case hn => k_is); (case ht => k_is); (case hm => k_is); (case mk => k_is); (case kp => k_is)
    case e_Empty =>
      refine' VL.er_mk KX G ?a ?e ?k ?s ?t
      (case a => k_is); (case e => k_exc); (case k => k_is); (case s => k_is); (case t => k_is)
    case e_BadCount =>
      refine' VL.er_mk KX G ?a ?e ?k ?s ?t
      (case a => k_is); (case e => k_exc); (case k => k_is); (case s => k_is); (case t => k_is)
    case b_range =>
      exact VL.no_mk KX G (by k_is)
    case b_sum =>
      exact VL.no_mk KX G (by k_is)
    case e_BadNumber =>
      refine' VL.er_mk KX G ?a ?e ?k ?s ?t
      (case a => k_is); (case e => k_exc); (case k => k_is); (case s => k_is); (case t => k_is)
    case b_enumerate =>
      exact VL.no_mk KX G (by k_is)
    case e_BadPile =>
      refine' VL.er_mk KX G ?a ?e ?k ?s ?t
      (case a => k_is); (case e => k_exc); (case k => k_is); (case s => k_is); (case t => k_is)
    case b_max =>
      exact VL.no_mk KX G (by k_is)
    case b_set =>
      exact VL.no_mk KX G (by k_is)
    case e_BadShape =>
      refine' VL.er_mk KX G ?a ?e ?k ?s ?t
      (case a => k_is); (case e => k_exc); (case k => k_is); (case s => k_is); (case t => k_is)
    case x_l_sort =>
      exact (VL.xa_cons (VL.xc_mk KX G (by first | rfl | k_is) ⟨by k_is, by k_is, by k_is, by k_is, by k_is, by k_is, by k_is, by k_is⟩ (by k_is) (by first | rfl | k_is) (VL.xi_cons (by first | rfl | k_is) (by first | rfl | k_is) (by decide +kernel) (VL.xi_cons (by first | rfl | k_is) (by first | rfl | k_is) (by decide +kernel) (VL.xi_cons (by first | rfl | k_is) (by first | rfl | k_is) (by decide +kernel) VL.xi_nil)))) (VL.xa_cons (VL.xc_mk KX G (by first | rfl | k_is) ⟨by k_is, by k_is, by k_is, by k_is, by k_is, by k_is, by k_is, by k_is⟩ (by k_is) (by first | rfl | k_is) (VL.xi_cons (by first | rfl | k_is) (by first | rfl | k_is) (by decide +kernel) (VL.xi_cons (by first | rfl | k_is) (by first | rfl | k_is) (by decide +kernel) (VL.xi_cons (by first | rfl | k_is) (by first | rfl | k_is) (by decide +kernel) VL.xi_nil)))) (VL.xa_cons (VL.xc_mk KX G (by first | rfl | k_is) ⟨by k_is, by k_is, by k_is, by k_is, by k_is, by k_is, by k_is, by k_is⟩ (by k_is) (by first | rfl | k_is) (VL.xi_cons (by first | rfl | k_is) (by first | rfl | k_is) (by decide +kernel) (VL.xi_cons (by first | rfl | k_is) (by first | rfl | k_is) (by decide +kernel) (VL.xi_cons (by first | rfl | k_is) (by first | rfl | k_is) (by decide +kernel) VL.xi_nil)))) VL.xa_nil)))
    case i_Slants =>
      refine' VL.ok_mk KX G ?a ?a0 ?a1 ?a2 ?e0 ?e1 ?e2 ?h0 ?h1 ?h2
      (case a => k_is); (case a0 => k_is); (case a1 => k_is); (case a2 => k_is); (case e0 => (first | rfl | k_is)); (case e1 => (first | rfl | k_is)); (case e2 => (first | rfl | k_is)); (case h0 => rfl); (case h1 => rfl); (case h2 => rfl)
    case i_Leans =>
      refine' VL.ok_mk KX G ?a ?a0 ?a1 ?a2 ?e0 ?e1 ?e2 ?h0 ?h1 ?h2
      (case a => k_is); (case a0 => k_is); (case a1 => k_is); (case a2 => k_is); (case e0 => (first | rfl | k_is)); (case e1 => (first | rfl | k_is)); (case e2 => (first | rfl | k_is)); (case h0 => rfl); (case h1 => rfl); (case h2 => rfl)
    case n_Slants =>
      refine' VL.di_mk KX G ?a rfl ?g ?n ?l ?c ?k ?mk ?kp ?b
      (case a => k_is); (case g => k_is); (case n => k_is); (case l => k_is); (case c => k_is); (case k => k_is); (case mk => k_is); (case kp => k_is)
      (case b => exact fun _ _ _ _ _ _ us hl => match us, hl with | [_, _], _ => rfl)
    case n_Leaned =>
      refine' VL.di_mk KX G ?a rfl ?g ?n ?l ?c ?k ?mk ?kp ?b
      (case a => k_is); (case g => k_is); (case n => k_is); (case l => k_is); (case c => k_is); (case k => k_is); (case mk => k_is); (case kp => k_is)
      (case b => exact fun _ _ _ _ _ _ us hl => match us, hl with | [_, _, _], _ => rfl)
