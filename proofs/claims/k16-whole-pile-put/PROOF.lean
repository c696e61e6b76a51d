import PyProof.Rows.All
import Wide.All
import OpenK.AllK
import Wide.FinOn
import HandS.ForMost
import HandS.ForExc
import HandS.Walk
import HandS.IsInst
import HandS.Deep
import HandS.Style
import HandS.Zip
import HandS.SortInts
import HandS.EndBits
import KE.KeyNested
import HandS.ExcIs
import KE.SortData
import KE.DataCmp
import HandS.TupLe
import HandS.Conv
import HandS.Wide
import HandS.TryOnly
import HandS.TupSets
import HandS.SetFor
import KE.IntBitsLaws
import KE.BitLaws
import PySem.Challenge.RW_heapmeld_k16_whole_pile_put
set_option Elab.async false
set_option linter.all false
set_option maxRecDepth 100000
set_option maxHeartbeats 4000000
/-! ### promises of defs that are called where no text is being made -/
namespace VL
open PySem L2
structure FnGd (P : Program) (w : World) (K : PySem.W.Frag) (mg : Str → Option Value) (bs : Heap) (CX : CXT) (k : Nat) (f : Addr) (fd : FuncData) (ps : List Str) (sp : Sp) : Prop where
  ln : ∀ xs H Q E, sp xs H Q E → xs.length = ps.length
  go : ∀ (A : Around) (ou : List Env) (s : Shared) (H : Hp) (ar : Args) (us : List Value) (xs : List V) (Q : VK) (E : XK), A.guards = some [] → Room k A → Env0 P w K mg bs A ou s H → BindsTo s fd ar (ps.zip us) → Vals xs us → sp xs H Q E →
    codeAny (model P w) A (.call (.ref f) ar) (CR CX ou P w H s Q E) s
theorem FnGd.weak {P : Program} {w : World} {K : PySem.W.Frag} {mg : Str → Option Value} {bs : Heap} {CX : CXT} {k : Nat} {f : Addr} {fd : FuncData} {ps : List Str} {sp sp' : Sp} (F : FnGd P w K mg bs CX k f fd ps sp) (h : ∀ xs H Q E, sp' xs H Q E → sp xs H Q E) : FnGd P w K mg bs CX k f fd ps sp' :=
  ⟨fun xs H Q E q => F.ln xs H Q E (h _ _ _ _ q), fun A ou s H ar us xs Q E g r e b v q => F.go A ou s H ar us xs Q E g r e b v (h _ _ _ _ q)⟩
section
variable {X : Cx} {CX : CXT} {k : Nat} {f : Addr} {fd : FuncData} {ps : List Str} {sp : Sp} {E : L2.St → XK} {x : Str} {p pos : Pos} {e : Expr} {es : List Expr} {t : TA}
theorem go_in {pn : List (Addr × Obj)} {σ : L2.St} {H : Hp} {s : Shared} {Q : VK} {us : List Value} {xs : List V} (F : FnGd X.prog X.w X.K X.mg X.base CX k f fd ps sp) (hq : X.A.guards = some []) (hr : Room k X.A) (hb : Binds X.K fd ps []) (hx : PassesAt CX X σ (E σ))
    (I : Inv X pn σ H s) (r : Vals xs us) (h : sp xs H Q (E σ)) : wpAny (model X.prog X.w) X.A (call (.ref f) us) (EP X pn σ Q) X.xe s := by
  have n1 : us.length = ps.length := (r.length).symm.trans (F.ln _ _ _ _ h)
  have n2 : BindsTo s fd ⟨us, []⟩ (ps.zip us) := by
    have n3 := hb s us I.kIn (by rwa [List.append_nil])
    rwa [List.append_nil] at n3
  refine wpAny_call (codeAny_mono (F.go X.A X.stack s H ⟨us, []⟩ us xs Q (E σ) hq hr I.env0 n2 r h) fun z s2 w => ?_)
  rcases z with z | z
  · exact hx pn H s z s2 I w
  · cases z <;> first | exact I.after w | exact w.elim
theorem pe_callG (F : FnGd X.prog X.w X.K X.mg X.base CX k f fd ps sp) (hq : X.A.guards = some []) (hr : Room k X.A) (hg : Gl X x) (hm : X.mg x = some (.ref f)) (hk : PySem.W.keepIn X.K (.ref f) = true) (hb : Binds X.K fd ps []) (hx : ∀ σ, PassesAt CX X σ (E σ))
    (ha : PA X (e :: es) t) (hdb : (x == ("__debug__" : Str)) = false := by decide) (he : starEach (e :: es) X.env = (false, eval e X.env) :: starEach es X.env := by rfl) (hpl : (backTo pos (starEach es X.env)).any (·.1) = false := by rfl) : PE X (.Call (.Name x p) (e :: es) [] pos) (tCallS sp E t) :=
  ⟨fun pn s σ H Q I h => wpAny_Call_Name_kw (ld_glob I hg hm (PySem.W.callWith_K (h₀ := X.base) I.ok.mod.kin hk (thn (ha.run pos pn s σ H _ I h) fun us s1 ⟨xs, H1, I1, r, q⟩ => ⟨I1.kIn, go_in F hq hr hb (hx σ) I1 r q⟩) he hpl) hdb)⟩
theorem pe_callG0 (F : FnGd X.prog X.w X.K X.mg X.base CX k f fd ps sp) (hq : X.A.guards = some []) (hr : Room k X.A) (hg : Gl X x) (hm : X.mg x = some (.ref f)) (hk : PySem.W.keepIn X.K (.ref f) = true) (hb : Binds X.K fd ps []) (hx : ∀ σ, PassesAt CX X σ (E σ))
    (hdb : (x == ("__debug__" : Str)) = false := by decide) : PE X (.Call (.Name x p) [] [] pos) (tCallS sp E tNil) :=
  ⟨fun pn s σ H Q I h => wpAny_Call_Name_kw (ld_glob I hg hm (PySem.W.callWith_K0 I.kIn hk (go_in (us := []) F hq hr hb (hx σ) I .nil h)) hdb)⟩
end
theorem gd_mk {P : Program} {w : World} {K : PySem.W.Frag} {mg : Str → Option Value} {bs : Heap} {x qu : Str} {st : Stmt} {f : Addr} {fd : FuncData} {N ps : List Str} {k : Nat} {sp : Sp} (F : Fun K x qu st f fd) (S : FnScope N ps (defScope st)) (ln : ∀ xs H Q E, sp xs H Q E → xs.length = ps.length)
    (hb : ∀ (cdv : Value) (A : Around) (ou : List Env) (s : Shared) (H : Hp) (xs : List V) (Q : VK) (E : XK), A.guards = some [] → Room k (A.deeper (PyProof.Rows.envOfC qu (defScope st) s.heap.objs.size f cdv)) → sp xs H Q E →
      ∃ t, PSs (cxOf (L2.CX P w) P w K mg bs N qu (defScope st) f cdv A ou s H E) (defBody st) t ∧ t { nx := fun _ H' => Q .non H', rt := Q } (start N xs) H) : FnGd P w K mg bs (L2.CX P w) (k + 1) f fd ps sp := by
  obtain ⟨oc, od, kV, dc, pm, an, cdv, ct, osl, rfl, lk, hcd⟩ := F.ex
  refine ⟨ln, fun A ou s H ar us xs Q E hq hr e0 hbi r hsp => ?_⟩
  have stays : ∀ b o, bs.get? b = some o → s.heap.get? b = some o := fun b o e => (e0.bs b o e).1
  have inK : K.In s.heap := e0.mod.kin.keeps stays
  have kinds : ∀ y ∈ ps.zip us, (defScope st).names.lookup y.1 = some .local ∨ ((defScope st).names.lookup y.1 = some .cell ∧ ((cellsFrom (s.heap.objs.size + 1) (defScope st).names []).lookup y.1).isSome = true) := by
    rintro ⟨n, v⟩ hy
    exact (S.par n (List.of_mem_zip hy).1).imp id fun z => ⟨z, PySem.W.cellsFrom_some _ _ _ (.inl z)⟩
  refine codeAny_call_function hr.depth (inK _ _ lk) rfl S.co S.gen rfl (PySem.W.codeRec_of inK hcd) (hbi _ _ _ _ (wpAny_newFunctionEnv_cells S.kind kinds fun env he s1 nw => ?_))
  subst he
  refine ⟨(e0.mod.nolimit.keeps stays).keeps nw.toInCall.keep, codeAny_func ?_⟩
  obtain ⟨t, ht, w0⟩ := hb cdv A ou s H xs Q E hq (hr.deeper _) hsp
  refine wpAny_mono (ht.run [] s1 (start N xs) H _ (inv_start S hr.hd e0 (ln _ _ _ _ hsp) r nw) w0) (fun fl s2 z => ?_) fun _ _ z => z
  cases fl with
  | ret u => obtain ⟨v, σ2, H2, J, rv, q⟩ := z; exact ⟨v, H2, J.os, J.bare, J.base, J.hok, rv, q⟩
  | next => obtain ⟨σ2, H2, J, q⟩ := z; exact ⟨V.non, H2, J.os, J.bare, J.base, J.hok, rfl, q⟩
  | brk => obtain ⟨_, _, _, q⟩ := z; exact q.elim
  | cont => obtain ⟨_, _, _, q⟩ := z; exact q.elim
/-! ### the end: the law's def is called at the heap behind the top -/
section
open PySem.Spec PyProof.Rows
variable {P : Program} {w : World} {K : PySem.W.Frag} {mg mb : Str → Option Value} {k : Nat} {fa a : Addr} {fd : FuncData} {x : Str} {sp : Sp} {s1 : Shared} {vs : List Value} {ns : List Int}
/-- what is called, and what is due behind it -/
def Due (P : Program) (w : World) (fa a : Addr) (s1 : Shared) : Prop :=
  codeAny (model P w) callerA (.call (.ref fa) ⟨[.ref a], []⟩) (fun r s' => r = .ok (.ret (.bool true)) ∧ OldK s1.heap s'.heap ∧ s'.os = s1.os ∧ AllBare s'.gens) s1
theorem due_of (inK : K.In s1.heap) (hns : s1.heap.Ns mainGlobals mg) (hb : s1.heap.Ns builtinsNs mb) (hbb : ∀ x : Str, x ≠ "__name__" → mb x = bootBuiltins x) (lim : s1.heap.NoLimit) (hg : s1.gens = #[])
    (ha : s1.heap.get? a = some { cls := .type "list", data := .seq vs.toArray }) (hr : Room k callerA) (F : ∀ bs : Heap, K.In bs → FnGd P w K mg bs (L2.CX P w) k fa fd [x] sp) (hbi : ∀ (s : Shared) (u : Value), BindsTo s fd ⟨[u], []⟩ [(x, u)])
    {H : Hp} (on : Only H) (hs : sp [.ref a] H (fun v _ => v = .bl true) fun _ _ _ => False) (ok : HOk P w H s1.heap) (one : ∀ b, H b ≠ none → b = a) (out : H a ≠ none → K.lookup a = none) : Due P w fa a s1 := by
  have free : ∀ {b : Addr}, b ≠ a → H b = none := fun {b} n => Classical.byContradiction fun z => n (one b z)
  have nsB : ∀ {b : Addr} {m : Str → Option Value}, s1.heap.Ns b m → (hidT s1.heap H).Ns b m := by
    rintro b m ⟨o, es, ep, e, d, r⟩
    refine ⟨o, es, ep, hidT_get e (free ?_), d, r⟩
    rintro rfl
    rw [ha] at e
    cases e
    cases d
  have inB : K.In (hidT s1.heap H) := by
    intro b o e
    refine hidT_get (inK b o e) (Classical.byContradiction fun z => ?_)
    have eb := one b z
    subst eb
    rw [out z] at e
    cases e
  obtain ⟨mc, l1, l2⟩ := lim
  have md : Mod K mg (hidT s1.heap H) := ⟨inB, nsB hns, ⟨mb, nsB hb, hbb⟩, mc, nsB l1, l2⟩
  have e0 : Env0 P w K mg (hidT s1.heap H) callerA [] s1 H := ⟨rfl, md, fun _ _ e => of_hidT e, Nat.le_of_eq (hidT_size _ _), trivial, fun b z => absurd (show b ∈ ([] : List Addr) from z) List.not_mem_nil, ok, .of_eq hg⟩
  refine codeAny_mono ((F _ inB).go callerA [] s1 H ⟨[.ref a], []⟩ [.ref a] [.ref a] _ _ rfl hr e0 (hbi s1 (.ref a)) (.cons rfl .nil) hs) fun r s2 z => ?_
  rcases r with r | r
  · obtain ⟨_, _, _, _, _, _, _, _, _, _, _, _, z⟩ := z
    exact z.elim
  · cases r with
    | next => exact z.elim
    | brk => exact z.elim
    | cont => exact z.elim
    | ret u =>
      obtain ⟨v, H2, os, bare, un, ok2, rv, rfl⟩ := z
      obtain rfl : u = Value.bool true := rv
      refine ⟨rfl, OldK.of_keep fun b o e => ?_, os, bare⟩
      rcases on b with n | ⟨ob, xs, n⟩
      · exact un.keep b o e n (fun z => absurd (show b ∈ ([] : List Addr) from z) List.not_mem_nil) (by simp)
      · have g1 := (ok b _ n).1
        have g2 := (ok2 b _ (un.frzs b ob _ n)).1
        exact g2.trans (g1.symm.trans e)
theorem due_all (inK : K.In s1.heap) (hns : s1.heap.Ns mainGlobals mg) (hb : s1.heap.Ns builtinsNs mb) (hbb : ∀ x : Str, x ≠ "__name__" → mb x = bootBuiltins x) (lim : s1.heap.NoLimit) (hg : s1.gens = #[])
    (ha : s1.heap.get? a = some { cls := .type "list", data := .seq vs.toArray }) (hi : IntsAre vs ns) (hl : ns.length ≤ sizeLine) (hr : Room k callerA) (F : ∀ bs : Heap, K.In bs → FnGd P w K mg bs (L2.CX P w) k fa fd [x] sp) (hbi : ∀ (s : Shared) (u : Value), BindsTo s fd ⟨[u], []⟩ [(x, u)])
    (hs : ∀ H : Hp, Only H → SqL K H a (ns.map V.int) → sp [.ref a] H (fun v _ => v = .bl true) fun _ _ _ => False) : Due P w fa a s1 := by
  have rv := vals_ints hi
  have ln := hi.length
  cases q : K.lookup a with
  | some o =>
    have e := ha.symm.trans (inK a o q)
    cases e
    have on : Only (fun _ => none) := fun _ => .inl rfl
    exact due_of inK hns hb hbb lim hg ha hr F hbi on (hs _ on (.inr ⟨_, vs.toArray, _, q, rfl, rfl, rfl, by rw [List.size_toArray, ln]; exact hl, by simpa using rv⟩)) (fun _ _ z => nomatch z) (fun _ z => absurd rfl z) fun z => absurd rfl z
  | none =>
    let o : Obj := { cls := .type "list", data := .seq vs.toArray }
    let H : Hp := fun b => if b = a then some (.frz o (.lst (ns.map V.int))) else none
    have hA : H a = some (.frz o (.lst (ns.map V.int))) := if_pos rfl
    have hN : ∀ {b : Addr}, b ≠ a → H b = none := fun n => if_neg n
    have on : Only H := fun b => (Classical.em (b = a)).elim (fun e => .inr ⟨_, _, e ▸ hA⟩) fun n => .inl (hN n)
    refine due_of inK hns hb hbb lim hg ha hr F hbi on (hs H on (.inl (.inr ⟨o, hA⟩))) (fun b u z => ?_) (fun b z => Classical.byContradiction fun n => z (hN n)) fun _ => q
    by_cases n : b = a
    · subst n
      have e := hA.symm.trans z
      cases e
      exact ⟨ha, by rw [List.length_map]; exact hl, vs, _, rv, ha⟩
    · have e := (hN n).symm.trans z
      cases e
end
end VL
namespace VL
open PySem L2
abbrev D := PyData
/-- a thing of one's own, parts within, too: data that is never changed, a list, a tuple, an object, what is not looked at any more -/
inductive RD where
  | dat (d : D) | lst (rs : List RD) | tup (rs : List RD) | ins (c : Nat) (rs : List RD) | jk | dic (kvs : List (D × Int))
/-- what a name holds: data that is never changed, a list of the def's own, an object with its fields, a thing of one's own -/
inductive SV where
  | sh (d : D) | ow (ds : List D) | ob (c : Nat) (fs : List D) | rg (r : RD)
mutual
@[simp] def RD.toD : RD → Option D
  | .dat d => some d
  | .lst rs => (RD.toDs rs).map .list
  | .tup rs => (RD.toDs rs).map .tuple
  | .ins _ _ => none
  | .jk => none
  | .dic _ => none
@[simp] def RD.toDs : List RD → Option (List D)
  | [] => some []
  | r :: rs => match RD.toD r, RD.toDs rs with
    | some d, some ds => some (d :: ds)
    | _, _ => none
end
/-- as a value that is never changed -/
def RD.fzv : RD → Option SV
  | .ins c rs => if 100 ≤ c then none else (RD.toDs rs).map (.ob c)
  | .dat d => some (.sh d)
  | .lst rs => (RD.toDs rs).map fun ds => .sh (.list ds)
  | .tup rs => (RD.toDs rs).map fun ds => .sh (.tuple ds)
  | .jk => none
  | .dic kvs => some (.ob 103 (kvs.map fun e => .tuple [e.1, .int e.2]))
theorem RD.fzv_of {r : RD} {d : D} (h : r.toD = some d) : r.fzv = some (.sh d) := by
  cases r with
  | dat x => simp only [RD.toD] at h; cases h; simp only [RD.fzv]
  | jk => simp only [RD.toD] at h; cases h
  | ins _ _ => simp only [RD.toD] at h; cases h
  | dic _ => simp only [RD.toD] at h; cases h
  | lst rs =>
    simp only [RD.toD] at h
    obtain ⟨ds, z, rfl⟩ := Option.map_eq_some_iff.mp h
    simp only [RD.fzv, z, Option.map_some]
  | tup rs =>
    simp only [RD.toD] at h
    obtain ⟨ds, z, rfl⟩ := Option.map_eq_some_iff.mp h
    simp only [RD.fzv, z, Option.map_some]
inductive R where
  | val (v : SV) | err (c : Str) | stuck
inductive RL where
  | val (as : List SV) | err (c : Str) | stuck
inductive RI where
  | val (ds : List D) | err (c : Str) | stuck
abbrev VEnv := List (Option SV)
abbrev FE := VEnv → R
abbrev FI := VEnv → RI
inductive SR where
  | nx (e : VEnv) | rt (v : SV) | err (c : Str) | stuck
abbrev FS := VEnv → SR
/-- the classes: of objects by number (address, names of fields), of errors by name -/
structure Ct where
  ad : Nat → Addr
  fl : Nat → List Str
  er : Str → Addr
  xa : Addr := 0
  me : Option Addr := none

/-! ### data held in a heap -/
theorem same_seqT {K : PySem.W.Frag} {H H' : Hp} {a : Addr} {xs : List V} (e : Same H H') (h : SqT K H a xs) : SqT K H' a xs := by
  rcases h with (h | ⟨o, h⟩) | h
  · exact .inl (.inl (e _ _ h))
  · exact .inl (.inr ⟨o, e _ _ h⟩)
  · exact .inr h
mutual
theorem dp_mono {K : PySem.W.Frag} {G G' : Hp} (e : Same G G') : ∀ (d : D) (v : V), Dp K G v d → Dp K G' v d
  | .none, _, h => by cases h; exact .non
  | .bool b, _, h => by cases h; exact .bl b
  | .int i, _, h => by cases h; exact .int i
  | .str x, _, h => by cases h; exact .str x
  | .list ds, _, h => by
    cases h with
    | lst hs ha => exact .lst (e.seq hs) (dpAll_mono e ds _ ha)
  | .tuple ds, _, h => by
    cases h with
    | tup hs ha => exact .tup (same_seqT e hs) (dpAll_mono e ds _ ha)
  | .dict _, _, h => by cases h
theorem dpAll_mono {K : PySem.W.Frag} {G G' : Hp} (e : Same G G') : ∀ (ds : List D) (vs : List V), DpAll K G vs ds → DpAll K G' vs ds
  | [], _, h => by cases h; exact .nil
  | d :: ds, _, h => by
    cases h with
    | cons h1 h2 => exact .cons (dp_mono e d _ h1) (dpAll_mono e ds _ h2)
end
structure Dq (G : Hp) (v : V) (d : D) : Prop where
  dp : Dp [] G v d
  ok : d.canLay0 = true
structure DqAll (G : Hp) (vs : List V) (ds : List D) : Prop where
  dp : DpAll [] G vs ds
  ok : PyData.canLayAll0 ds = true
section
variable {G G' H H' : Hp} {v : V} {d : D} {vs : List V} {ds : List D}
theorem Dq.mono (h : Dq G v d) (e : Same G G') : Dq G' v d := ⟨dp_mono e d v h.dp, h.ok⟩
theorem DqAll.mono (h : DqAll G vs ds) (e : Same G G') : DqAll G' vs ds := ⟨dpAll_mono e ds vs h.dp, h.ok⟩
theorem DqAll.nil : DqAll G [] [] := ⟨.nil, by simp only [PyData.canLayAll0]⟩
theorem DqAll.cons (h : Dq G v d) (hs : DqAll G vs ds) : DqAll G (v :: vs) (d :: ds) :=
  ⟨.cons h.dp hs.dp, by simp only [PyData.canLayAll0, h.ok, hs.ok, Bool.and_self]⟩
theorem DqAll.inv {d : D} (h : DqAll G vs (d :: ds)) : ∃ v vs', vs = v :: vs' ∧ Dq G v d ∧ DqAll G vs' ds := by
  obtain ⟨h1, h2⟩ := h
  simp only [PyData.canLayAll0, Bool.and_eq_true] at h2
  cases h1 with
  | cons a b => exact ⟨_, _, rfl, ⟨a, h2.1⟩, ⟨b, h2.2⟩⟩
theorem DqAll.inv0 (h : DqAll G vs []) : vs = [] := by
  cases h.dp; rfl
theorem DqAll.length : ∀ {ds : List D} {vs : List V}, DqAll G vs ds → vs.length = ds.length
  | [], _, h => by rw [h.inv0]; rfl
  | _ :: _, _, h => by
    obtain ⟨v, vs', rfl, _, h2⟩ := h.inv
    simp only [List.length_cons, h2.length]
theorem DqAll.get : ∀ {ds : List D} {vs : List V} {i : Nat} {d : D}, DqAll G vs ds → ds[i]? = some d → ∃ v, vs[i]? = some v ∧ Dq G v d
  | [], _, _, _, _, e => by simp at e
  | _ :: _, _, 0, _, h, e => by
    obtain ⟨v, vs', rfl, h1, _⟩ := h.inv
    simp at e; subst e
    exact ⟨v, rfl, h1⟩
  | _ :: _, _, i + 1, d, h, e => by
    obtain ⟨v, vs', rfl, _, h2⟩ := h.inv
    exact DqAll.get (i := i) h2 (by simpa using e)
theorem DqAll.append : ∀ {ds es : List D} {vs ws : List V}, DqAll G vs ds → DqAll G ws es → DqAll G (vs ++ ws) (ds ++ es)
  | [], _, _, _, h, h' => by rw [h.inv0]; exact h'
  | _ :: _, _, _, _, h, h' => by
    obtain ⟨v, vs', rfl, h1, h2⟩ := h.inv
    exact .cons h1 (h2.append h')
theorem DqAll.take : ∀ {ds : List D} {vs : List V} (n : Nat), DqAll G vs ds → DqAll G (vs.take n) (ds.take n)
  | _, _, 0, _ => by simp; exact .nil
  | [], _, n + 1, h => by rw [h.inv0]; simp; exact .nil
  | _ :: _, _, n + 1, h => by
    obtain ⟨v, vs', rfl, h1, h2⟩ := h.inv
    exact .cons h1 (h2.take n)
theorem DqAll.drop : ∀ {ds : List D} {vs : List V} (n : Nat), DqAll G vs ds → DqAll G (vs.drop n) (ds.drop n)
  | _, _, 0, h => h
  | [], _, n + 1, h => by rw [h.inv0]; simp; exact .nil
  | _ :: _, _, n + 1, h => by
    obtain ⟨v, vs', rfl, h1, h2⟩ := h.inv
    exact h2.drop n
theorem DqAll.reverse : ∀ {ds : List D} {vs : List V}, DqAll G vs ds → DqAll G vs.reverse ds.reverse
  | [], _, h => by rw [h.inv0]; exact .nil
  | _ :: _, _, h => by
    obtain ⟨v, vs', rfl, h1, h2⟩ := h.inv
    rw [List.reverse_cons, List.reverse_cons]
    exact h2.reverse.append (.cons h1 .nil)
theorem Dq.tup {a : Addr} {xs : List V} (h : SqT [] G a xs) (hs : DqAll G xs ds) : Dq G (.ref a) (.tuple ds) := ⟨.tup h hs.dp, by simp only [PyData.canLay0, hs.ok]⟩
theorem Dq.lst {a : Addr} {xs : List V} (h : SqL [] G a xs) (hs : DqAll G xs ds) : Dq G (.ref a) (.list ds) := ⟨.lst h hs.dp, by simp only [PyData.canLay0, hs.ok]⟩
theorem Dq.tupInv (h : Dq G v (.tuple ds)) : ∃ a xs, v = .ref a ∧ SqT [] G a xs ∧ DqAll G xs ds := by
  obtain ⟨h1, h2⟩ := h
  simp only [PyData.canLay0] at h2
  cases h1 with
  | tup a b => exact ⟨_, _, rfl, a, ⟨b, h2⟩⟩
theorem Dq.lstInv (h : Dq G v (.list ds)) : ∃ a xs, v = .ref a ∧ SqL [] G a xs ∧ DqAll G xs ds := by
  obtain ⟨h1, h2⟩ := h
  simp only [PyData.canLay0] at h2
  cases h1 with
  | lst a b => exact ⟨_, _, rfl, a, ⟨b, h2⟩⟩
theorem Dq.int {i : Int} : Dq G (.int i) (.int i) := ⟨.int i, by simp only [PyData.canLay0]⟩
theorem Dq.bl {b : Bool} : Dq G (.bl b) (.bool b) := ⟨.bl b, by simp only [PyData.canLay0]⟩
theorem Dq.non : Dq G .non .none := ⟨.non, by simp only [PyData.canLay0]⟩
theorem Dq.intInv {i : Int} (h : Dq G v (.int i)) : v = .int i := by cases h.dp; rfl
theorem Dq.blInv {b : Bool} (h : Dq G v (.bool b)) : v = .bl b := by cases h.dp; rfl
theorem Dq.strInv {x : Str} (h : Dq G v (.str x)) : v = .str x := by cases h.dp; rfl
theorem Dq.nonInv (h : Dq G v .none) : v = .non := by cases h.dp; rfl
end

/-! ### what is remembered: a table of counts that defs hand on and fill -/
def manyF : Nat → Nat → Nat → Nat
  | 0, _, _ => 0
  | n + 1, ks, rk => if ks = 0 ∨ rk = 0 then (if ks = rk then 1 else 0) else if ks < 2 ^ rk - 1 then 0 else
    ((List.range ks).map fun lf => manyF n (ks - 1 - lf) (rk - 1) * ((List.range 8).map fun he => if rk - 1 ≤ he ∧ 2 ^ he - 1 ≤ lf then manyF n lf he else 0).sum).sum
def manyN (ks rk : Nat) : Nat := manyF (ks + 1) ks rk
def MemK (kvs : List (List Key × V)) : Prop := (kvs.map (·.1)).Nodup ∧ ∀ p ∈ kvs, ∃ a b : Nat, a ≤ 40 ∧ b ≤ 40 ∧ p.1 = [.inl (a : Int), .inl (b : Int)] ∧ p.2 = .int (manyN a b : Nat)
def Mem : HO → Prop
  | .dT kvs => MemK kvs
  | _ => False
/-- the same, but for such tables -/
def SameH (H H' : Hp) : Prop := ∀ b o, H b = some o → ∃ o', H' b = some o' ∧ (o' = o ∨ (Mem o ∧ Mem o'))
theorem SameH.refl (H : Hp) : SameH H H := fun _ o e => ⟨o, e, .inl rfl⟩
theorem SameH.of {H H' : Hp} (s : Same H H') : SameH H H' := fun b o e => ⟨o, s b o e, .inl rfl⟩
theorem SameH.trans {H H1 H2 : Hp} (a : SameH H H1) (b : SameH H1 H2) : SameH H H2 := fun x o e => by
  obtain ⟨o1, e1, h1⟩ := a x o e
  obtain ⟨o2, e2, h2⟩ := b x o1 e1
  refine ⟨o2, e2, ?_⟩
  rcases h1 with rfl | h1
  · exact h2
  · rcases h2 with rfl | h2
    · exact .inr h1
    · exact .inr ⟨h1.1, h2.2⟩
theorem SameH.free {H H' : Hp} (s : SameH H H') {a : Addr} (h : H' a = none) : H a = none := by
  cases q : H a with
  | none => rfl
  | some o =>
    obtain ⟨o', e, _⟩ := s a o q
    rw [h] at e; cases e
theorem SameH.at {H H' : Hp} (s : SameH H H') {a : Addr} {o : HO} (h : H a = some o) (n : ¬ Mem o) : H' a = some o := by
  obtain ⟨o', e, z⟩ := s a o h
  rcases z with rfl | z
  · exact e
  · exact absurd z.1 n
/-- nothing of such a kind is in G -/
def NoMem (G : Hp) : Prop := ∀ b o, G b = some o → ¬ Mem o
theorem SameH.up {G H H' : Hp} (s : SameH H H') (g : Same G H) (n : NoMem G) : Same G H' := fun b o e => s.at (g b o e) (n b o e)
/-! ### steps -/
structure Step (G H G' H' : Hp) : Prop where
  hh : SameH H H'
  gg : Same G G'
  gh : Same G' H'
  nw : ∀ a, G a = none → G' a ≠ none → H a = none
  nm : NoMem G → NoMem G'
theorem same_none {H H' : Hp} (e : Same H H') {a : Addr} (h : H' a = none) : H a = none := e.free h
theorem Step.refl {G H : Hp} (h : Same G H) : Step G H G H := ⟨SameH.refl _, Same.refl _, h, fun _ a b => absurd a b, fun n => n⟩
theorem Step.trans {G H G1 H1 G2 H2 : Hp} (a : Step G H G1 H1) (b : Step G1 H1 G2 H2) : Step G H G2 H2 :=
  ⟨a.hh.trans b.hh, a.gg.trans b.gg, b.gh, fun x h1 h2 => by
    by_cases q : G1 x = none
    · exact a.hh.free (b.nw x q h2)
    · exact a.nw x h1 q, fun n => b.nm (a.nm n)⟩
theorem same_upd {H : Hp} {p : Addr} (h : H p = none) (o : HO) : Same H (upd H p o) := fun b u q => by rw [upd_ne (ne_of_none q h)]; exact q
/-- a new object that is never changed -/
theorem Step.new {G H : Hp} (h : Same G H) {p : Addr} (n : H p = none) (o : HO) (m : ¬ Mem o := by exact fun z => z) : Step G H (upd G p o) (upd H p o) := by
  refine ⟨.of (same_upd n o), same_upd (same_none h n) o, fun b u q => ?_, fun a h1 h2 => ?_, fun k b u q => ?_⟩
  · by_cases e : b = p
    · subst e; rw [upd_same] at q ⊢; exact q
    · rw [upd_ne e] at q ⊢; exact h b u q
  · by_cases e : a = p
    · subst e; exact n
    · rw [upd_ne e] at h2; exact absurd h1 h2
  · by_cases e : b = p
    · subst e; rw [upd_same] at q; cases q; exact m
    · rw [upd_ne e] at q; exact k b u q
/-- a new object kept apart -/
theorem Step.apart {G H : Hp} (h : Same G H) {p : Addr} (n : H p = none) (o : HO) : Step G H G (upd H p o) :=
  ⟨.of (same_upd n o), Same.refl _, h.trans (same_upd n o), fun _ a b => absurd a b, fun n => n⟩
/-- what was kept apart is never changed from here on -/
theorem Step.freeze {G H G' H' : Hp} (s : Step G H G' H') {p : Addr} {o : HO} (n : H p = none) (n' : G' p = none) (e : H' p = some o) (m : ¬ Mem o := by exact fun z => z) : Step G H (upd G' p o) H' := by
  refine ⟨s.hh, s.gg.trans (same_upd n' o), fun b u q => ?_, fun a h1 h2 => ?_, fun k b u q => ?_⟩
  · by_cases z : b = p
    · subst z; rw [upd_same] at q; rw [e]; exact q
    · rw [upd_ne z] at q; exact s.gh b u q
  · by_cases z : a = p
    · subst z; exact n
    · rw [upd_ne z] at h2; exact s.nw a h1 h2
  · by_cases z : b = p
    · subst z; rw [upd_same] at q; cases q; exact m
    · rw [upd_ne z] at q; exact s.nm k b u q
/-- an owned list stays apart through a step -/
theorem Step.own {G H G' H' : Hp} (s : Step G H G' H') {p : Addr} {o : HO} (n : G p = none) (e : H p = some o) (m : ¬ Mem o := by exact fun z => z) : G' p = none ∧ H' p = some o := by
  refine ⟨?_, s.hh.at e m⟩
  cases q : G' p with
  | none => rfl
  | some u =>
    have z := s.nw p n (by rw [q]; exact fun z => nomatch z)
    rw [e] at z; cases z

/-! ### a dict with heaps (tuples within tuples) as keys, ints as values -/
mutual
def nkOf : D → NestedKey
  | .int i => .num i
  | .tuple ds => .tup (nksOf ds)
  | _ => .none
def nksOf : List D → List NestedKey
  | [] => []
  | d :: ds => nkOf d :: nksOf ds
end
mutual
def nkOk : D → Bool
  | .int _ => true
  | .tuple ds => nksOk ds
  | _ => false
def nksOk : List D → Bool
  | [] => true
  | d :: ds => nkOk d && nksOk ds
end
/-- the object itself -/
def rawO (p : Addr) (o : Obj) : HO := .ext fun h => h.get? p = some o
def DicE (G : Hp) (x : D × Int) (e : DictEntry) : Prop := ∃ a t, e.key = .ref a ∧ Dq G (.ref a) x.1 ∧ nkOk x.1 = true ∧ (nkOf x.1).depth ≤ 8 ∧ (∀ w, e.hash = NestedKey.hash w (nkOf x.1)) ∧ e.val = .int x.2 t
structure DicR (G : Hp) (kvs : List (D × Int)) (es : List DictEntry) : Prop where
  pr : Paired (DicE G) kvs es
  nd : (kvs.map fun e => nkOf e.1).Nodup
  ln : kvs.length ≤ 100000
theorem DicR.mono {G G' : Hp} {kvs : List (D × Int)} {es : List DictEntry} (h : DicR G kvs es) (e : Same G G') : DicR G' kvs es :=
  ⟨Paired.mapP h.pr fun _ _ ⟨a, t, h1, h2, h3⟩ => ⟨a, t, h1, h2.mono e, h3⟩, h.nd, h.ln⟩
structure DicO (G : Hp) (p : Addr) (o : Obj) (kvs : List (D × Int)) : Prop where
  sy : (p == sysModules) = false
  ex : o.ExactDict
  dt : ∃ es ep, o.data = .dict es ep ∧ DicR G kvs es.toList
theorem DicO.mono {G G' : Hp} {p : Addr} {o : Obj} {kvs : List (D × Int)} (h : DicO G p o kvs) (e : Same G G') : DicO G' p o kvs :=
  ⟨h.sy, h.ex, let ⟨es, ep, h1, h2⟩ := h.dt; ⟨es, ep, h1, h2.mono e⟩⟩
def DicF (G : Hp) (v : V) (fs : List D) : Prop := ∃ p o kvs, v = .ref p ∧ G p = some (rawO p o) ∧ DicO G p o kvs ∧ fs = kvs.map fun e => .tuple [e.1, .int e.2]
theorem DicF.mono {G G' : Hp} {v : V} {fs : List D} (h : DicF G v fs) (e : Same G G') : DicF G' v fs :=
  let ⟨p, o, kvs, h1, h2, h3, h4⟩ := h; ⟨p, o, kvs, h1, e _ _ h2, h3.mono e, h4⟩
/-! ### objects -/
def ObRp (T : Ct) (G : Hp) (v : V) (c : Nat) (fs : List D) : Prop := if c = 100 then v = .ref T.xa else if c = 101 then (∃ a, T.me = some a ∧ v = .ref a) else if c = 102 then True else if c = 103 then DicF G v fs else
  ∃ a dx vs, v = .ref a ∧ G a = some (.ins (T.ad c) dx ((T.fl c).zip vs)) ∧ G dx = some (.own a) ∧ vs.length = (T.fl c).length ∧ DqAll G vs fs
theorem ObRp.mono {T : Ct} {G G' : Hp} {v : V} {c : Nat} {fs : List D} (h : ObRp T G v c fs) (e : Same G G') : ObRp T G' v c fs := by
  unfold ObRp at *
  split at h
  · rename_i z; rw [if_pos z]; exact h
  · rename_i z; rw [if_neg z]
    split at h
    · rename_i z; rw [if_pos z]; exact h
    · rename_i z; rw [if_neg z]
      split at h
      · rename_i z; rw [if_pos z]; trivial
      rename_i z; rw [if_neg z]
      split at h
      · rename_i z; rw [if_pos z]; exact h.mono e
      rename_i z; rw [if_neg z]
      obtain ⟨a, dx, vs, h1, h2, h3, h4, h5⟩ := h
      exact ⟨a, dx, vs, h1, e _ _ h2, e _ _ h3, h4, h5.mono e⟩
/-- a value handed on -/
def VRp (T : Ct) (G : Hp) (v : V) : SV → Prop
  | .sh d => Dq G v d
  | .ow _ => False
  | .ob c fs => ObRp T G v c fs
  | .rg _ => False
theorem VRp.mono {T : Ct} {G G' : Hp} {v : V} {a : SV} (h : VRp T G v a) (e : Same G G') : VRp T G' v a := by
  cases a with
  | sh d => exact Dq.mono h e
  | ow _ => exact h
  | ob c fs => exact ObRp.mono h e
  | rg _ => exact h
def VRpAll (T : Ct) (G : Hp) (vs : List V) (as : List SV) : Prop := Paired (VRp T G) vs as
theorem VRpAll.mono {T : Ct} {G G' : Hp} (e : Same G G') : ∀ {vs : List V} {as : List SV}, VRpAll T G vs as → VRpAll T G' vs as
  | _, _, .nil => .nil
  | _, _, .cons h t => .cons (h.mono e) (VRpAll.mono e t)

/-! ### a thing of one's own: its places, one by one -/
mutual
inductive RRp (T : Ct) (G H : Hp) : List Addr → V → RD → Prop
  | dat {v : V} {d : D} (h : Dq G v d) : RRp T G H [] v (.dat d)
  | jk {v : V} : RRp T G H [] v .jk
  | lst {p : Addr} {vs : List V} {S : List Addr} {rs : List RD} (h : H p = some (.lst vs)) (a : RRpAll T G H S vs rs) : RRp T G H (p :: S) (.ref p) (.lst rs)
  | tup {p : Addr} {vs : List V} {S : List Addr} {rs : List RD} (h : H p = some (.tup vs)) (a : RRpAll T G H S vs rs) : RRp T G H (p :: S) (.ref p) (.tup rs)
  | ins {p dx : Addr} {c : Nat} {vs : List V} {S : List Addr} {rs : List RD} (h : H p = some (.ins (T.ad c) dx ((T.fl c).zip vs))) (h2 : H dx = some (.own p)) (l : vs.length = (T.fl c).length) (a : RRpAll T G H S vs rs) : RRp T G H (p :: dx :: S) (.ref p) (.ins c rs)
  | dic {p : Addr} {o : Obj} {kvs : List (D × Int)} (h : H p = some (rawO p o)) (a : DicO G p o kvs) : RRp T G H [p] (.ref p) (.dic kvs)
inductive RRpAll (T : Ct) (G H : Hp) : List Addr → List V → List RD → Prop
  | nil : RRpAll T G H [] [] []
  | cons {S S' : List Addr} {v : V} {vs : List V} {r : RD} {rs : List RD} (h : RRp T G H S v r) (a : RRpAll T G H S' vs rs) : RRpAll T G H (S ++ S') (v :: vs) (r :: rs)
end
mutual
theorem RRp.mono {T T' : Ct} {G G' H H' : Hp} (e : Same G G') (t1 : T.ad = T'.ad) (t2 : T.fl = T'.fl) : ∀ (r : RD) (S : List Addr) (v : V), RRp T G H S v r → (∀ a ∈ S, H' a = H a) → RRp T' G' H' S v r
  | .dat d, _, _, .dat h, _ => .dat (h.mono e)
  | .jk, _, _, .jk, _ => .jk
  | .lst rs, _, _, .lst h a, k => .lst ((k _ List.mem_cons_self).trans h) (RRpAll.mono e t1 t2 rs _ _ a fun b m => k b (List.mem_cons_of_mem _ m))
  | .tup rs, _, _, .tup h a, k => .tup ((k _ List.mem_cons_self).trans h) (RRpAll.mono e t1 t2 rs _ _ a fun b m => k b (List.mem_cons_of_mem _ m))
  | .ins c rs, _, _, .ins h h2 l a, k => .ins (((k _ List.mem_cons_self).trans h).trans (by rw [t1, t2])) ((k _ (List.mem_cons_of_mem _ List.mem_cons_self)).trans h2) (l.trans (by rw [t2])) (RRpAll.mono e t1 t2 rs _ _ a fun b m => k b (List.mem_cons_of_mem _ (List.mem_cons_of_mem _ m)))
  | .dic kvs, _, _, .dic h a, k => .dic ((k _ List.mem_cons_self).trans h) (a.mono e)
theorem RRpAll.mono {T T' : Ct} {G G' H H' : Hp} (e : Same G G') (t1 : T.ad = T'.ad) (t2 : T.fl = T'.fl) : ∀ (rs : List RD) (S : List Addr) (vs : List V), RRpAll T G H S vs rs → (∀ a ∈ S, H' a = H a) → RRpAll T' G' H' S vs rs
  | [], _, _, .nil, _ => .nil
  | r :: rs, _, _, .cons h a, k => .cons (RRp.mono e t1 t2 r _ _ h fun b m => k b (List.mem_append_left _ m)) (RRpAll.mono e t1 t2 rs _ _ a fun b m => k b (List.mem_append_right _ m))
end
mutual
theorem RRp.at {T : Ct} {G H : Hp} : ∀ (r : RD) (S : List Addr) (v : V), RRp T G H S v r → ∀ a ∈ S, ∃ o, H a = some o ∧ ¬ Mem o
  | .dat _, _, _, .dat _, a, m => absurd m List.not_mem_nil
  | .jk, _, _, .jk, a, m => absurd m List.not_mem_nil
  | .lst rs, _, _, .lst h q, a, m => by
    rcases List.mem_cons.mp m with rfl | m
    · exact ⟨_, h, fun z => z⟩
    · exact RRpAll.at rs _ _ q a m
  | .tup rs, _, _, .tup h q, a, m => by
    rcases List.mem_cons.mp m with rfl | m
    · exact ⟨_, h, fun z => z⟩
    · exact RRpAll.at rs _ _ q a m
  | .ins c rs, _, _, .ins h h2 l q, a, m => by
    rcases List.mem_cons.mp m with rfl | m
    · exact ⟨_, h, fun z => z⟩
    rcases List.mem_cons.mp m with rfl | m
    · exact ⟨_, h2, fun z => z⟩
    · exact RRpAll.at rs _ _ q a m
  | .dic kvs, _, _, .dic h q, a, m => by
    rw [List.mem_singleton.mp m]
    exact ⟨_, h, fun z => z⟩
theorem RRpAll.at {T : Ct} {G H : Hp} : ∀ (rs : List RD) (S : List Addr) (vs : List V), RRpAll T G H S vs rs → ∀ a ∈ S, ∃ o, H a = some o ∧ ¬ Mem o
  | [], _, _, .nil, a, m => absurd m List.not_mem_nil
  | r :: rs, _, _, .cons h q, a, m => by
    rcases List.mem_append.mp m with m | m
    · exact RRp.at r _ _ h a m
    · exact RRpAll.at rs _ _ q a m
end
theorem zip_inj {α : Type} : ∀ {fs : List Str} {vs ws : List α}, vs.length = fs.length → ws.length = fs.length → fs.zip vs = fs.zip ws → vs = ws
  | [], [], [], _, _, _ => rfl
  | [], _ :: _, _, h, _, _ => by cases h
  | [], _, _ :: _, _, h, _ => by cases h
  | _ :: _, [], _, h, _, _ => by cases h
  | _ :: _, _, [], _, h, _ => by cases h
  | f :: fs, v :: vs, w :: ws, h1, h2, e => by
    simp only [List.zip_cons_cons, List.cons.injEq, Prod.mk.injEq, true_and] at e
    rw [e.1, zip_inj (by simpa using h1) (by simpa using h2) e.2]
mutual
theorem RRp.det {T : Ct} {G G' H H' : Hp} : ∀ (r : RD) (S S' : List Addr) (v : V), RRp T G H S v r → RRp T G' H' S' v r → (∀ a ∈ S, H' a = H a) → S' = S
  | .dat _, _, _, _, .dat _, .dat _, _ => rfl
  | .jk, _, _, _, .jk, .jk, _ => rfl
  | .lst rs, _, _, _, .lst h q, .lst h' q', k => by
    have e := (k _ List.mem_cons_self)
    rw [h, h'] at e
    cases e
    rw [RRpAll.det rs _ _ _ q q' fun b m => k b (List.mem_cons_of_mem _ m)]
  | .tup rs, _, _, _, .tup h q, .tup h' q', k => by
    have e := (k _ List.mem_cons_self)
    rw [h, h'] at e
    cases e
    rw [RRpAll.det rs _ _ _ q q' fun b m => k b (List.mem_cons_of_mem _ m)]
  | .ins c rs, _, _, _, .ins h h2 l q, .ins h' h2' l' q', k => by
    have e := (k _ List.mem_cons_self)
    rw [h, h'] at e
    injection e with e
    injection e with e1 e2 e3
    subst e2
    have e4 := zip_inj l' l e3
    subst e4
    rw [RRpAll.det rs _ _ _ q q' fun b m => k b (List.mem_cons_of_mem _ (List.mem_cons_of_mem _ m))]
  | .dic kvs, _, _, _, .dic h q, .dic h' q', k => rfl
theorem RRpAll.det {T : Ct} {G G' H H' : Hp} : ∀ (rs : List RD) (S S' : List Addr) (vs : List V), RRpAll T G H S vs rs → RRpAll T G' H' S' vs rs → (∀ a ∈ S, H' a = H a) → S' = S
  | [], _, _, _, .nil, .nil, _ => rfl
  | r :: rs, _, _, _, .cons h q, .cons h' q', k => by
    rw [RRp.det r _ _ _ h h' fun b m => k b (List.mem_append_left _ m), RRpAll.det rs _ _ _ q q' fun b m => k b (List.mem_append_right _ m)]
end
mutual
/-- .. never changed from here on -/
theorem RRp.frz {T : Ct} {G H G2 : Hp} (e : Same G G2) : ∀ (r : RD) (S : List Addr) (v : V) (d : D), RRp T G H S v r → (∀ a ∈ S, G2 a = H a) → r.toD = some d → Dq G2 v d
  | .dat _, _, _, d, .dat h, _, z => by cases z; exact h.mono e
  | .jk, _, _, _, _, _, z => by cases z
  | .ins _ _, _, _, _, _, _, z => by cases z
  | .dic _, _, _, _, _, _, z => by cases z
  | .lst rs, _, _, d, .lst h q, k, z => by
    simp only [RD.toD] at z
    obtain ⟨ds, z1, rfl⟩ := Option.map_eq_some_iff.mp z
    exact Dq.lst (SqL.of ((k _ List.mem_cons_self).trans h)) (RRpAll.frz e rs _ _ ds q (fun b m => k b (List.mem_cons_of_mem _ m)) z1)
  | .tup rs, _, _, d, .tup h q, k, z => by
    simp only [RD.toD] at z
    obtain ⟨ds, z1, rfl⟩ := Option.map_eq_some_iff.mp z
    exact Dq.tup (SqT.of ((k _ List.mem_cons_self).trans h)) (RRpAll.frz e rs _ _ ds q (fun b m => k b (List.mem_cons_of_mem _ m)) z1)
theorem RRpAll.frz {T : Ct} {G H G2 : Hp} (e : Same G G2) : ∀ (rs : List RD) (S : List Addr) (vs : List V) (ds : List D), RRpAll T G H S vs rs → (∀ a ∈ S, G2 a = H a) → RD.toDs rs = some ds → DqAll G2 vs ds
  | [], _, _, ds, .nil, _, z => by simp only [RD.toDs] at z; cases z; exact .nil
  | r :: rs, _, _, ds, .cons h q, k, z => by
    simp only [RD.toDs] at z
    split at z
    · rename_i d ds' e1 e2
      cases z
      exact .cons (RRp.frz e r _ _ d h (fun b m => k b (List.mem_append_left _ m)) e1) (RRpAll.frz e rs _ _ ds' q (fun b m => k b (List.mem_append_right _ m)) e2)
    · cases z
end
theorem RRp.fzv {T : Ct} {G H G2 : Hp} (e : Same G G2) {r : RD} {S : List Addr} {v : V} {w : SV} (h : RRp T G H S v r) (k : ∀ a ∈ S, G2 a = H a) (z : r.fzv = some w) : VRp T G2 v w := by
  cases r with
  | dat d => simp only [RD.fzv] at z; cases z; exact RRp.frz e (.dat d) _ _ d h k (by simp only [RD.toD])
  | jk => simp only [RD.fzv] at z; cases z
  | lst rs =>
    simp only [RD.fzv] at z
    obtain ⟨ds, z1, rfl⟩ := Option.map_eq_some_iff.mp z
    exact RRp.frz e (.lst rs) _ _ (.list ds) h k (by simp only [RD.toD, z1, Option.map_some])
  | tup rs =>
    simp only [RD.fzv] at z
    obtain ⟨ds, z1, rfl⟩ := Option.map_eq_some_iff.mp z
    exact RRp.frz e (.tup rs) _ _ (.tuple ds) h k (by simp only [RD.toD, z1, Option.map_some])
  | ins c rs =>
    simp only [RD.fzv] at z
    split at z
    · cases z
    · rename_i nc
      obtain ⟨ds, z1, rfl⟩ := Option.map_eq_some_iff.mp z
      cases h with
      | ins h h2 l q =>
        show ObRp T G2 _ c ds
        unfold ObRp
        rw [if_neg (by omega), if_neg (by omega), if_neg (by omega), if_neg (by omega)]
        exact ⟨_, _, _, rfl, (k _ List.mem_cons_self).trans h, (k _ (List.mem_cons_of_mem _ List.mem_cons_self)).trans h2, l, RRpAll.frz e rs _ _ ds q (fun b m => k b (List.mem_cons_of_mem _ (List.mem_cons_of_mem _ m))) z1⟩
  | dic kvs =>
    simp only [RD.fzv] at z
    cases z
    cases h with
    | dic h a =>
      show ObRp T G2 _ 103 _
      unfold ObRp
      rw [if_neg (by omega), if_neg (by omega), if_neg (by omega), if_pos rfl]
      exact ⟨_, _, kvs, rfl, (k _ List.mem_cons_self).trans h, a.mono e, rfl⟩
open Classical in
/-- a heap with some places of another -/
noncomputable def addS (G H : Hp) (S : List Addr) : Hp := fun a => if a ∈ S then H a else G a
theorem addS_in {G H : Hp} {S : List Addr} {a : Addr} (h : a ∈ S) : addS G H S a = H a := if_pos h
theorem addS_out {G H : Hp} {S : List Addr} {a : Addr} (h : a ∉ S) : addS G H S a = G a := if_neg h
theorem addS_same {G H : Hp} {S : List Addr} (n : ∀ a ∈ S, G a = none) : Same G (addS G H S) := fun b o e => by
  rw [addS_out fun m => by rw [n b m] at e; cases e]; exact e
/-- what is new and apart since H0 is never changed from here on -/
theorem Step.frzS {G0 H0 G H : Hp} (s : Step G0 H0 G H) {S : List Addr} (n : ∀ a ∈ S, G a = none ∧ H0 a = none) (k : ∀ a ∈ S, ∃ o, H a = some o ∧ ¬ Mem o) : Step G0 H0 (addS G H S) H := by
  refine ⟨s.hh, s.gg.trans (addS_same fun a m => (n a m).1), fun b o e => ?_, fun a h1 h2 => ?_, fun q b o e => ?_⟩
  · by_cases m : b ∈ S
    · rw [addS_in m] at e; exact e
    · rw [addS_out m] at e; exact s.gh b o e
  · by_cases m : a ∈ S
    · exact (n a m).2
    · rw [addS_out m] at h2; exact s.nw a h1 h2
  · by_cases m : b ∈ S
    · rw [addS_in m] at e
      obtain ⟨o', e', z⟩ := k b m
      rw [e] at e'; cases e'; exact z
    · rw [addS_out m] at e; exact s.nm q b o e
/-- places apart stay as they are through a step -/
theorem Step.keepS {G H G' H' : Hp} (s : Step G H G' H') {S : List Addr} (n : ∀ a ∈ S, G a = none) (k : ∀ a ∈ S, ∃ o, H a = some o ∧ ¬ Mem o) : (∀ a ∈ S, G' a = none) ∧ ∀ a ∈ S, H' a = H a := by
  refine ⟨fun a m => ?_, fun a m => ?_⟩
  · obtain ⟨o, e, z⟩ := k a m
    exact (s.own (n a m) e z).1
  · obtain ⟨o, e, z⟩ := k a m
    rw [(s.own (n a m) e z).2, e]
structure RgAt (T : Ct) (B : Hp × Hp) (G H : Hp) (S : List Addr) (v : V) (r : RD) : Prop where
  rp : RRp T G H S v r
  nd : S.Nodup
  nw : ∀ a ∈ S, G a = none ∧ B.2 a = none
theorem RgAt.step {T : Ct} {B : Hp × Hp} {G H G' H' : Hp} {S : List Addr} {v : V} {r : RD} (h : RgAt T B G H S v r) (s : Step G H G' H') : RgAt T B G' H' S v r := by
  obtain ⟨a1, a2⟩ := s.keepS (fun a m => (h.nw a m).1) (RRp.at r S v h.rp)
  exact ⟨RRp.mono s.gg rfl rfl r S v h.rp a2, h.nd, fun a m => ⟨a1 a m, (h.nw a m).2⟩⟩
/-- of such things a def has one at a time -/
def RgOk (T : Ct) (B : Hp × Hp) (G : Hp) (env : VEnv) (σ : L2.St) (H : Hp) : Prop := ∀ (i : Nat) r, env[i]? = some (some (.rg r)) → (∀ (j : Nat) r', env[j]? = some (some (.rg r')) → j = i) ∧ ∃ v S, σ[i]? = some (some v) ∧ RgAt T B G H S v r ∧
  ∀ (j : Nat) ds p, env[j]? = some (some (.ow ds)) → σ[j]? = some (some (.ref p)) → p ∉ S
theorem RgOk.sub {T : Ct} {B : Hp × Hp} {G H : Hp} {env env' : VEnv} {σ σ' : L2.St} (h : RgOk T B G env σ H) (h1 : ∀ (i : Nat) r, env'[i]? = some (some (.rg r)) → env[i]? = some (some (.rg r)) ∧ σ'[i]? = σ[i]?)
    (h2 : ∀ (j : Nat) ds p, env'[j]? = some (some (.ow ds)) → σ'[j]? = some (some (.ref p)) → ∃ ds', env[j]? = some (some (.ow ds')) ∧ σ[j]? = some (some (.ref p))) : RgOk T B G env' σ' H := fun i r e => by
  obtain ⟨e1, e2⟩ := h1 i r e
  obtain ⟨u, v, S, a, b, c⟩ := h i r e1
  refine ⟨fun j r' q => u j r' (h1 j r' q).1, v, S, e2.trans a, b, fun j ds p q1 q2 => ?_⟩
  obtain ⟨ds', z1, z2⟩ := h2 j ds p q1 q2
  exact c j ds' p z1 z2
/-! ### the state -/
structure Sim (T : Ct) (B : Hp × Hp) (G : Hp) (env : VEnv) (σ : St) (H : Hp) : Prop where
  st : Step B.1 B.2 G H
  nb : NoMem B.1
  me : ∀ a, T.me = some a → ∃ o, H a = some o ∧ Mem o
  len : env.length = σ.length
  sh : ∀ (i : Nat) d, env[i]? = some (some (.sh d)) → ∃ v, σ[i]? = some (some v) ∧ Dq G v d
  ob : ∀ (i : Nat) c fs, env[i]? = some (some (.ob c fs)) → ∃ v, σ[i]? = some (some v) ∧ ObRp T G v c fs
  ow : ∀ (i : Nat) ds, env[i]? = some (some (.ow ds)) → ∃ p xs, σ[i]? = some (some (.ref p)) ∧ H p = some (.lst xs) ∧ G p = none ∧ B.2 p = none ∧ DqAll G xs ds
  ap : ∀ (i j : Nat) ds es p, env[i]? = some (some (.ow ds)) → env[j]? = some (some (.ow es)) → σ[i]? = some (some (.ref p)) → σ[j]? = some (some (.ref p)) → i = j
  rg : RgOk T B G env σ H
section
variable {T : Ct} {B : Hp × Hp} {G G' H H' : Hp} {env : VEnv} {σ : St}
theorem Sim.gh (S : Sim T B G env σ H) : Same G H := S.st.gh
theorem Sim.step (S : Sim T B G env σ H) (s : Step G H G' H') : Sim T B G' env σ H' where
  st := S.st.trans s
  nb := S.nb
  me := fun a z => by
    obtain ⟨o, e, m⟩ := S.me a z
    obtain ⟨o', e', h⟩ := s.hh _ o e
    exact ⟨o', e', h.elim (fun q => q ▸ m) fun q => q.2⟩
  len := S.len
  sh := fun i d e => let ⟨v, h1, h2⟩ := S.sh i d e; ⟨v, h1, h2.mono s.gg⟩
  ob := fun i c fs e => let ⟨v, h1, h2⟩ := S.ob i c fs e; ⟨v, h1, h2.mono s.gg⟩
  ow := fun i ds e => by
    obtain ⟨p, xs, h1, h2, h3, h4, h5⟩ := S.ow i ds e
    obtain ⟨h3', h2'⟩ := s.own h3 h2
    exact ⟨p, xs, h1, h2', h3', h4, h5.mono s.gg⟩
  ap := S.ap
  rg := fun i r e => by
    obtain ⟨u, v, F, a, b, c⟩ := S.rg i r e
    exact ⟨u, v, F, a, b.step s, c⟩
/-- a name is forgotten -/
theorem get_set {α : Type} {l : List α} {i j : Nat} {a b : α} (h : (l.set i a)[j]? = some b) : (i = j ∧ a = b) ∨ (i ≠ j ∧ l[j]? = some b) := by
  by_cases e : i = j
  · subst e
    by_cases hl : i < l.length
    · rw [List.getElem?_set_self hl] at h; exact .inl ⟨rfl, Option.some.inj h⟩
    · rw [List.getElem?_eq_none (by simpa using hl)] at h; cases h
  · rw [List.getElem?_set_ne e] at h; exact .inr ⟨e, h⟩
theorem Sim.lt (S : Sim T B G env σ H) {i : Nat} {o : Option SV} (h : env[i]? = some o) : i < σ.length := by
  rw [← S.len]; exact (List.getElem?_eq_some_iff.mp h).1
theorem Sim.setSh (S : Sim T B G env σ H) {i : Nat} {v : V} {d : D} (h : Dq G v d) : Sim T B G (env.set i (some (.sh d))) (σ.set i (some v)) H where
  st := S.st
  nb := S.nb
  me := S.me
  len := by rw [List.length_set, List.length_set, S.len]
  sh := fun j e q => by
    have hj : j < σ.length := by have := (List.getElem?_eq_some_iff.mp q).1; rw [List.length_set] at this; rw [← S.len]; exact this
    rcases get_set q with ⟨z, y⟩ | ⟨z, y⟩
    · subst z; cases y; exact ⟨v, List.getElem?_set_self hj, h⟩
    · obtain ⟨w, h1, h2⟩ := S.sh j e y
      exact ⟨w, by rw [List.getElem?_set_ne z]; exact h1, h2⟩
  ob := fun j c fs q => by
    rcases get_set q with ⟨z, y⟩ | ⟨z, y⟩
    · cases y
    · obtain ⟨w, h1, h2⟩ := S.ob j c fs y
      exact ⟨w, by rw [List.getElem?_set_ne z]; exact h1, h2⟩
  ow := fun j ds q => by
    rcases get_set q with ⟨z, y⟩ | ⟨z, y⟩
    · cases y
    · obtain ⟨p, xs, h1, h2⟩ := S.ow j ds y
      exact ⟨p, xs, by rw [List.getElem?_set_ne z]; exact h1, h2⟩
  ap := fun j k ds es p q1 q2 q3 q4 => by
    rcases get_set q1 with ⟨z, y⟩ | ⟨z1, y1⟩
    · cases y
    rcases get_set q2 with ⟨z, y⟩ | ⟨z2, y2⟩
    · cases y
    rw [List.getElem?_set_ne z1] at q3
    rw [List.getElem?_set_ne z2] at q4
    exact S.ap j k ds es p y1 y2 q3 q4
  rg := S.rg.sub (fun j r q => by
    rcases get_set q with ⟨z, y⟩ | ⟨z, y⟩
    · cases y
    · exact ⟨y, List.getElem?_set_ne z⟩) fun j ds p q q' => by
    rcases get_set q with ⟨z, y⟩ | ⟨z, y⟩
    · cases y
    · rw [List.getElem?_set_ne z] at q'; exact ⟨ds, y, q'⟩
theorem Sim.setOb (S : Sim T B G env σ H) {i : Nat} {v : V} {c : Nat} {fs : List D} (h : ObRp T G v c fs) : Sim T B G (env.set i (some (.ob c fs))) (σ.set i (some v)) H where
  st := S.st
  nb := S.nb
  me := S.me
  len := by rw [List.length_set, List.length_set, S.len]
  sh := fun j e q => by
    rcases get_set q with ⟨z, y⟩ | ⟨z, y⟩
    · cases y
    · obtain ⟨w, h1, h2⟩ := S.sh j e y
      exact ⟨w, by rw [List.getElem?_set_ne z]; exact h1, h2⟩
  ob := fun j c' fs' q => by
    have hj : j < σ.length := by have := (List.getElem?_eq_some_iff.mp q).1; rw [List.length_set] at this; rw [← S.len]; exact this
    rcases get_set q with ⟨z, y⟩ | ⟨z, y⟩
    · subst z; cases y; exact ⟨v, List.getElem?_set_self hj, h⟩
    · obtain ⟨w, h1, h2⟩ := S.ob j c' fs' y
      exact ⟨w, by rw [List.getElem?_set_ne z]; exact h1, h2⟩
  ow := fun j ds q => by
    rcases get_set q with ⟨z, y⟩ | ⟨z, y⟩
    · cases y
    · obtain ⟨p, xs, h1, h2⟩ := S.ow j ds y
      exact ⟨p, xs, by rw [List.getElem?_set_ne z]; exact h1, h2⟩
  ap := fun j k ds es p q1 q2 q3 q4 => by
    rcases get_set q1 with ⟨z, y⟩ | ⟨z1, y1⟩
    · cases y
    rcases get_set q2 with ⟨z, y⟩ | ⟨z2, y2⟩
    · cases y
    rw [List.getElem?_set_ne z1] at q3
    rw [List.getElem?_set_ne z2] at q4
    exact S.ap j k ds es p y1 y2 q3 q4
  rg := S.rg.sub (fun j r q => by
    rcases get_set q with ⟨z, y⟩ | ⟨z, y⟩
    · cases y
    · exact ⟨y, List.getElem?_set_ne z⟩) fun j ds p q q' => by
    rcases get_set q with ⟨z, y⟩ | ⟨z, y⟩
    · cases y
    · rw [List.getElem?_set_ne z] at q'; exact ⟨ds, y, q'⟩
theorem Sim.setNone (S : Sim T B G env σ H) {i : Nat} {o : Option V} : Sim T B G (env.set i none) (σ.set i o) H where
  st := S.st
  nb := S.nb
  me := S.me
  len := by rw [List.length_set, List.length_set, S.len]
  sh := fun j e q => by
    rcases get_set q with ⟨z, y⟩ | ⟨z, y⟩
    · cases y
    · obtain ⟨w, h1, h2⟩ := S.sh j e y
      exact ⟨w, by rw [List.getElem?_set_ne z]; exact h1, h2⟩
  ob := fun j c' fs' q => by
    rcases get_set q with ⟨z, y⟩ | ⟨z, y⟩
    · cases y
    · obtain ⟨w, h1, h2⟩ := S.ob j c' fs' y
      exact ⟨w, by rw [List.getElem?_set_ne z]; exact h1, h2⟩
  ow := fun j ds q => by
    rcases get_set q with ⟨z, y⟩ | ⟨z, y⟩
    · cases y
    · obtain ⟨p, xs, h1, h2⟩ := S.ow j ds y
      exact ⟨p, xs, by rw [List.getElem?_set_ne z]; exact h1, h2⟩
  ap := fun j k ds es p q1 q2 q3 q4 => by
    rcases get_set q1 with ⟨z, y⟩ | ⟨z1, y1⟩
    · cases y
    rcases get_set q2 with ⟨z, y⟩ | ⟨z2, y2⟩
    · cases y
    rw [List.getElem?_set_ne z1] at q3
    rw [List.getElem?_set_ne z2] at q4
    exact S.ap j k ds es p y1 y2 q3 q4
  rg := S.rg.sub (fun j r q => by
    rcases get_set q with ⟨z, y⟩ | ⟨z, y⟩
    · cases y
    · exact ⟨y, List.getElem?_set_ne z⟩) fun j ds p q q' => by
    rcases get_set q with ⟨z, y⟩ | ⟨z, y⟩
    · cases y
    · rw [List.getElem?_set_ne z] at q'; exact ⟨ds, y, q'⟩
/-- a list of one's own goes to a name: new since H, apart from all others -/
theorem Sim.setOw (S : Sim T B G env σ H) {i : Nat} {p : Addr} {xs : List V} {ds : List D} (hb : B.2 p = none) (hg : G p = none) (hp : H p = some (.lst xs)) (h : DqAll G xs ds)
    (new : ∀ (j : Nat) es, env[j]? = some (some (.ow es)) → i ≠ j → σ[j]? ≠ some (some (.ref p)))
    (newR : ∀ (j : Nat) r v F, env[j]? = some (some (.rg r)) → i ≠ j → σ[j]? = some (some v) → RRp T G H F v r → p ∉ F) : Sim T B G (env.set i (some (.ow ds))) (σ.set i (some (.ref p))) H where
  st := S.st
  nb := S.nb
  me := S.me
  len := by rw [List.length_set, List.length_set, S.len]
  sh := fun j e q => by
    rcases get_set q with ⟨z, y⟩ | ⟨z, y⟩
    · cases y
    · obtain ⟨w, h1, h2⟩ := S.sh j e y
      exact ⟨w, by rw [List.getElem?_set_ne z]; exact h1, h2⟩
  ob := fun j c fs q => by
    rcases get_set q with ⟨z, y⟩ | ⟨z, y⟩
    · cases y
    · obtain ⟨w, h1, h2⟩ := S.ob j c fs y
      exact ⟨w, by rw [List.getElem?_set_ne z]; exact h1, h2⟩
  ow := fun j es q => by
    have hj : j < σ.length := by have := (List.getElem?_eq_some_iff.mp q).1; rw [List.length_set] at this; rw [← S.len]; exact this
    rcases get_set q with ⟨z, y⟩ | ⟨z, y⟩
    · subst z; cases y; exact ⟨p, xs, List.getElem?_set_self hj, hp, hg, hb, h⟩
    · obtain ⟨p, xs, h1, h2⟩ := S.ow j es y
      exact ⟨p, xs, by rw [List.getElem?_set_ne z]; exact h1, h2⟩
  ap := fun j k es fs a q1 q2 q3 q4 => by
    rcases get_set q1 with ⟨z1, y1⟩ | ⟨z1, y1⟩
    · rcases get_set q2 with ⟨z2, y2⟩ | ⟨z2, y2⟩
      · rw [← z1, ← z2]
      · subst z1
        have hi : i < σ.length := by have := (List.getElem?_eq_some_iff.mp q3).1; rw [List.length_set] at this; exact this
        rw [List.getElem?_set_self hi] at q3
        rw [List.getElem?_set_ne z2] at q4
        cases q3
        exact absurd q4 (new k fs y2 z2)
    · rcases get_set q2 with ⟨z2, y2⟩ | ⟨z2, y2⟩
      · subst z2
        have hi : i < σ.length := by have := (List.getElem?_eq_some_iff.mp q4).1; rw [List.length_set] at this; exact this
        rw [List.getElem?_set_self hi] at q4
        rw [List.getElem?_set_ne z1] at q3
        cases q4
        exact absurd q3 (new j es y1 z1)
      · rw [List.getElem?_set_ne z1] at q3
        rw [List.getElem?_set_ne z2] at q4
        exact S.ap j k es fs a y1 y2 q3 q4
  rg := fun j r q => by
    rcases get_set q with ⟨z, y⟩ | ⟨z, y⟩
    · cases y
    obtain ⟨u, v, F, a, b, c⟩ := S.rg j r y
    refine ⟨fun j' r' q' => ?_, v, F, by rw [List.getElem?_set_ne z]; exact a, b, fun j' ds' p' q1 q2 => ?_⟩
    · rcases get_set q' with ⟨z', y'⟩ | ⟨z', y'⟩
      · cases y'
      · exact u j' r' y'
    · rcases get_set q1 with ⟨z', y'⟩ | ⟨z', y'⟩
      · subst z'
        have hi : i < σ.length := by have := (List.getElem?_eq_some_iff.mp q2).1; rw [List.length_set] at this; exact this
        rw [List.getElem?_set_self hi] at q2
        cases q2
        exact newR j r v F y z a b.rp
      · rw [List.getElem?_set_ne z'] at q2
        exact c j' ds' p' y' q2
/-- the list that a name owns is changed -/
theorem Sim.write (S : Sim T B G env σ H) {i : Nat} {p : Addr} {ds ds' : List D} {xs' : List V} (hi : env[i]? = some (some (.ow ds))) (hp : σ[i]? = some (some (.ref p))) (h : DqAll G xs' ds') :
    Sim T B G (env.set i (some (.ow ds'))) σ (upd H p (.lst xs')) := by
  obtain ⟨p', xs, e1, e2, e3, e4, e5⟩ := S.ow i ds hi
  rw [hp] at e1; cases e1
  have hl : i < σ.length := S.lt hi
  have hs : σ = σ.set i (some (.ref p)) := by
    refine List.ext_getElem? fun j => ?_
    by_cases z : i = j
    · subst z; rw [List.getElem?_set_self hl]; exact hp
    · rw [List.getElem?_set_ne z]
  have S1 : Sim T B G (env.set i none) σ (upd H p (.lst xs')) := by
    refine ⟨⟨fun b u q => ?_, S.st.gg, fun b u q => ?_, S.st.nw, S.st.nm⟩, S.nb, fun c z => ?_, by rw [List.length_set, S.len], fun j d q => ?_, fun j c fs q => ?_, fun j es q => ?_, fun j k es fs a q1 q2 q3 q4 => ?_, fun j r q => ?_⟩
    · rw [upd_ne (ne_of_none q e4)]; exact S.st.hh b u q
    · rw [upd_ne (ne_of_none q e3)]; exact S.st.gh b u q
    · obtain ⟨o, e, m⟩ := S.me c z
      have : c ≠ p := fun y => by rw [y, e2] at e; cases e; exact m
      exact ⟨o, by rw [upd_ne this]; exact e, m⟩
    · rcases get_set q with ⟨z, y⟩ | ⟨z, y⟩
      · cases y
      · exact S.sh j d y
    · rcases get_set q with ⟨z, y⟩ | ⟨z, y⟩
      · cases y
      · exact S.ob j c fs y
    · rcases get_set q with ⟨z, y⟩ | ⟨z, y⟩
      · cases y
      · obtain ⟨a, ys, h1, h2, h3⟩ := S.ow j es y
        refine ⟨a, ys, h1, ?_, h3⟩
        have : a ≠ p := fun e => z (S.ap i j ds es p hi y hp (e ▸ h1))
        rw [upd_ne this]; exact h2
    · rcases get_set q1 with ⟨z, y⟩ | ⟨z1, y1⟩
      · cases y
      rcases get_set q2 with ⟨z, y⟩ | ⟨z2, y2⟩
      · cases y
      exact S.ap j k es fs a y1 y2 q3 q4
    · rcases get_set q with ⟨z, y⟩ | ⟨z, y⟩
      · cases y
      obtain ⟨u, v, F, a, b, c⟩ := S.rg j r y
      have pf : p ∉ F := c i ds p hi hp
      refine ⟨fun j' r' q' => ?_, v, F, a, ⟨RRp.mono (Same.refl _) rfl rfl r F v b.rp fun d m => upd_ne fun e => pf (e ▸ m), b.nd, b.nw⟩, fun j' ds' p' q1 q2 => ?_⟩
      · rcases get_set q' with ⟨z', y'⟩ | ⟨z', y'⟩
        · cases y'
        · exact u j' r' y'
      · rcases get_set q1 with ⟨z', y'⟩ | ⟨z', y'⟩
        · cases y'
        · exact c j' ds' p' y' q2
  have r := S1.setOw (i := i) (p := p) (xs := xs') (ds := ds') e4 e3 upd_same h (fun j es q z => by
    rcases get_set q with ⟨z', y⟩ | ⟨z', y⟩
    · exact absurd z' z
    · exact fun w => z (S.ap i j ds es p hi y hp w)) (fun j r v F q z w b => by
    rcases get_set q with ⟨z', y⟩ | ⟨z', y⟩
    · exact absurd z' z
    obtain ⟨u, v', F', a', b', c'⟩ := S.rg j r y
    rw [w] at a'; cases a'
    have pf : p ∉ F' := c' i ds p hi hp
    rw [RRp.det r F' F v b'.rp b fun d m => upd_ne fun e => pf (e ▸ m)]
    exact pf)
  rw [← hs, List.set_set] at r
  exact r
/-- a list of one's own is never changed from here on -/
theorem Sim.frz (S : Sim T B G env σ H) {i : Nat} {ds : List D} (hi : env[i]? = some (some (.ow ds))) : ∃ G', Same G G' ∧ Sim T B G' (env.set i (some (.sh (.list ds)))) σ H := by
  obtain ⟨p, xs, e1, e2, e3, e4, e5⟩ := S.ow i ds hi
  have hl : i < σ.length := S.lt hi
  have hs : σ = σ.set i (some (.ref p)) := by
    refine List.ext_getElem? fun j => ?_
    by_cases z : i = j
    · subst z; rw [List.getElem?_set_self hl]; exact e1
    · rw [List.getElem?_set_ne z]
  have sg : Same G (upd G p (.lst xs)) := same_upd e3 _
  have S1 : Sim T B (upd G p (.lst xs)) (env.set i none) σ H := by
    refine ⟨S.st.freeze e4 e3 e2, S.nb, S.me, by rw [List.length_set, S.len], fun j d q => ?_, fun j c fs q => ?_, fun j es q => ?_, fun j k es fs a q1 q2 q3 q4 => ?_, fun j r q => ?_⟩
    · rcases get_set q with ⟨z, y⟩ | ⟨z, y⟩
      · cases y
      · obtain ⟨v, h1, h2⟩ := S.sh j d y; exact ⟨v, h1, h2.mono sg⟩
    · rcases get_set q with ⟨z, y⟩ | ⟨z, y⟩
      · cases y
      · obtain ⟨v, h1, h2⟩ := S.ob j c fs y; exact ⟨v, h1, h2.mono sg⟩
    · rcases get_set q with ⟨z, y⟩ | ⟨z, y⟩
      · cases y
      · obtain ⟨a, ys, h1, h2, h3, h4, h5⟩ := S.ow j es y
        have : a ≠ p := fun e => z (S.ap i j ds es p hi y e1 (e ▸ h1))
        exact ⟨a, ys, h1, h2, by rw [upd_ne this]; exact h3, h4, h5.mono sg⟩
    · rcases get_set q1 with ⟨z, y⟩ | ⟨z1, y1⟩
      · cases y
      rcases get_set q2 with ⟨z, y⟩ | ⟨z2, y2⟩
      · cases y
      exact S.ap j k es fs a y1 y2 q3 q4
    · rcases get_set q with ⟨z, y⟩ | ⟨z, y⟩
      · cases y
      obtain ⟨u, v, F, a, b, c⟩ := S.rg j r y
      have pf : p ∉ F := c i ds p hi e1
      refine ⟨fun j' r' q' => ?_, v, F, a, ⟨RRp.mono sg rfl rfl r F v b.rp fun _ _ => rfl, b.nd, fun d m => ⟨(upd_ne fun (e : d = p) => pf (e ▸ m)).trans (b.nw d m).1, (b.nw d m).2⟩⟩, fun j' ds' p' q1 q2 => ?_⟩
      · rcases get_set q' with ⟨z', y'⟩ | ⟨z', y'⟩
        · cases y'
        · exact u j' r' y'
      · rcases get_set q1 with ⟨z', y'⟩ | ⟨z', y'⟩
        · cases y'
        · exact c j' ds' p' y' q2
  have r := S1.setSh (i := i) (v := .ref p) (d := .list ds) (Dq.lst (SqL.of upd_same) (e5.mono sg))
  rw [← hs, List.set_set] at r
  exact ⟨upd G p (.lst xs), sg, r⟩
end
end VL
namespace VL
open PySem L2
/-! ### what an expression comes to, and what is wanted of it -/
def Out (T : Ct) (EX : XK) (r : R) (G H : Hp) (Q : VK) : Prop := match r with
  | .val (.sh d) => ∀ v G' H', Step G H G' H' → Dq G' v d → Q v H'
  | .val (.ow ds) => ∀ p xs G' H', Step G H G' H' → H p = none → G' p = none → H' p = some (.lst xs) → DqAll G' xs ds → Q (.ref p) H'
  | .val (.ob c fs) => ∀ v G' H', Step G H G' H' → ObRp T G' v c fs → Q v H'
  | .val (.rg r) => ∀ v S G' H', Step G H G' H' → S.Nodup → (∀ a ∈ S, G' a = none ∧ H a = none) → RRp T G' H' S v r → Q v H'
  | .err c => ∀ H', SameH H H' → EX (.ref (T.er c)) none H'
  | .stuck => False
def OutL (T : Ct) (EX : XK) (r : RL) (G H : Hp) (Q : List V → Hp → Prop) : Prop := match r with
  | .val as => ∀ vs G' H', Step G H G' H' → VRpAll T G' vs as → Q vs H'
  | .err c => ∀ H', SameH H H' → EX (.ref (T.er c)) none H'
  | .stuck => False
def OutT (T : Ct) (EX : XK) (r : R) (G H : Hp) (Q : Bool → Hp → Prop) : Prop := match r with
  | .val (.sh (.bool b)) => ∀ G' H', Step G H G' H' → Q b H'
  | .err c => ∀ H', SameH H H' → EX (.ref (T.er c)) none H'
  | _ => False
/-- a walk over data that stands in G -/
def WalksD (J : It) (G : Hp) (ds : List D) : Prop :=
  Walk J ds.length (fun H => Same G H) (fun i H x H' => ∀ Gc, Same G Gc → Same Gc H → ∃ d Gc', ds[i]? = some d ∧ Step Gc H Gc' H' ∧ Dq Gc' x d)
def OutI (T : Ct) (EX : XK) (r : RI) (G H : Hp) (Q : It → Hp → Prop) : Prop := match r with
  | .val ds => ∀ J G' H', Step G H G' H' → WalksD J G' ds → Q J H'
  | .err c => ∀ H', SameH H H' → EX (.ref (T.er c)) none H'
  | .stuck => False
def OutS (T : Ct) (EX : XK) (B : Hp × Hp) (r : SR) (G : Hp) (D : Ends) : Prop := match r with
  | .nx env => ∀ G' σ' H', Same G G' → Sim T B G' env σ' H' → D.nx σ' H'
  | .rt v => Out T EX (.val v) B.1 B.2 D.rt
  | .err c => ∀ H', SameH B.2 H' → EX (.ref (T.er c)) none H'
  | .stuck => False
def rdV (T : Ct) (EX : XK) (B : Hp × Hp) (f : FE) : TE := fun σ H Q => ∃ G env, Sim T B G env σ H ∧ Out T EX (f env) G H Q
def rdT (T : Ct) (EX : XK) (B : Hp × Hp) (f : FE) : TT := fun σ H Q => ∃ G env, Sim T B G env σ H ∧ OutT T EX (f env) G H Q
def rdI (T : Ct) (EX : XK) (B : Hp × Hp) (f : FI) : TI := fun σ H Q => ∃ G env, Sim T B G env σ H ∧ OutI T EX (f env) G H Q
def rdS (T : Ct) (EX : XK) (B : Hp × Hp) (f : FS) : TS := fun D σ H => ∃ G env, Sim T B G env σ H ∧ OutS T EX B (f env) G D

/-! ### arguments -/
@[simp] def SV.fz : SV → SV
  | .ow ds => .sh (.list ds)
  | .rg r => (match r.fzv with
    | some w => w
    | none => .ob 102 [])
  | .sh d => .sh d
  | .ob c fs => .ob c fs
/-- as a value to be handed on -/
@[simp] def R.v (r : R) (k : SV → R) : R := match r with
  | .val v => k v.fz
  | .err c => .err c
  | .stuck => .stuck
/-- as data -/
@[simp] def R.d (r : R) (k : D → R) : R := match r with
  | .val (.sh d) => k d
  | .val (.ow ds) => k (.list ds)
  | .val (.ob _ _) => .stuck
  | .val (.rg r) => (match r.toD with
    | some d => k d
    | none => .stuck)
  | .err c => .err c
  | .stuck => .stuck
@[simp] def RL.b (r : RL) (k : List SV → R) : R := match r with
  | .val as => k as
  | .err c => .err c
  | .stuck => .stuck
@[simp] def RL.cons (a : SV) (r : RL) : RL := match r with
  | .val as => .val (a :: as)
  | .err c => .err c
  | .stuck => .stuck
@[simp] def evA : List FE → VEnv → RL
  | [], _ => .val []
  | f :: fs, env => match f env with
    | .val v => (evA fs env).cons v.fz
    | .err c => .err c
    | .stuck => .stuck
def rdA (T : Ct) (EX : XK) (B : Hp × Hp) (fs : List FE) : TA := fun σ H Q => ∃ G env, Sim T B G env σ H ∧ OutL T EX (evA fs env) G H Q

section
variable {T : Ct} {EX : XK} {B : Hp × Hp} {G G1 H H1 : Hp} {env : VEnv} {σ : L2.St}
theorem Out.step {r : R} {Q : VK} (h : Out T EX r G H Q) (s : Step G H G1 H1) : Out T EX r G1 H1 Q := by
  cases r with
  | val v =>
    cases v with
    | sh d => exact fun v G' H' s' q => h v G' H' (s.trans s') q
    | ow ds => exact fun p xs G' H' s' n1 n2 e q => h p xs G' H' (s.trans s') (SameH.free s.hh n1) n2 e q
    | ob c fs => exact fun v G' H' s' q => h v G' H' (s.trans s') q
    | rg r => exact fun v S G' H' s' nd nw q => h v S G' H' (s.trans s') nd (fun a m => ⟨(nw a m).1, SameH.free s.hh (nw a m).2⟩) q
  | err c => exact fun H' q => h H' (s.hh.trans q)
  | stuck => exact h
theorem Out.mono {r : R} {Q Q' : VK} (h : Out T EX r G H Q) (q : ∀ v H', Q v H' → Q' v H') : Out T EX r G H Q' := by
  cases r with
  | val v =>
    cases v with
    | sh d => exact fun v G' H' s' z => q _ _ (h v G' H' s' z)
    | ow ds => exact fun p xs G' H' s' n1 n2 e z => q _ _ (h p xs G' H' s' n1 n2 e z)
    | ob c fs => exact fun v G' H' s' z => q _ _ (h v G' H' s' z)
    | rg r => exact fun v S G' H' s' nd nw z => q _ _ (h v S G' H' s' nd nw z)
  | err c => exact h
  | stuck => exact h
theorem OutL.step {r : RL} {Q : List V → Hp → Prop} (h : OutL T EX r G H Q) (s : Step G H G1 H1) : OutL T EX r G1 H1 Q := by
  cases r with
  | val as => exact fun v G' H' s' q => h v G' H' (s.trans s') q
  | err c => exact fun H' q => h H' (s.hh.trans q)
  | stuck => exact h
/-- a value, kept apart or not, is from here on never changed -/
theorem Out.fz {v : SV} {Q : VK} (h : ∀ x G' H', Step G H G' H' → VRp T G' x v.fz → Q x H') : Out T EX (.val v) G H Q := by
  cases v with
  | rg r =>
    refine fun x S G' H' s nd nw q => ?_
    have k := RRp.at r S x q
    refine h x (addS G' H' S) H' (s.frzS nw k) ?_
    simp only [SV.fz]
    split
    · rename_i w ew
      exact RRp.fzv (addS_same fun a m => (nw a m).1) q (fun a m => addS_in m) ew
    · show ObRp T _ x 102 []
      unfold ObRp
      rw [if_neg (by decide), if_neg (by decide), if_pos rfl]
      trivial
  | sh d => exact h
  | ow ds =>
    intro p xs G' H' s n1 n2 e q
    have sg : Same G' (upd G' p (.lst xs)) := same_upd n2 _
    exact h (.ref p) (upd G' p (.lst xs)) H' (s.freeze n1 n2 e) (Dq.lst (SqL.of upd_same) (q.mono sg))
  | ob c fs => exact h
/-- first a value, then what is made of it -/
theorem seqV {f : FE} {k : SV → R} {Q : VK} (S : Sim T B G env σ H) (h : Out T EX ((f env).v k) G H Q) :
    rdV T EX B f σ H (fun v H1 => ∃ a G1, Step G H G1 H1 ∧ VRp T G1 v a ∧ Sim T B G1 env σ H1 ∧ Out T EX (k a) G1 H1 Q) := by
  refine ⟨G, env, S, ?_⟩
  revert h
  cases f env with
  | val v => exact fun h => Out.fz fun x G' H' s q => ⟨v.fz, G', s, q, S.step s, Out.step h s⟩
  | err c => exact fun h => h
  | stuck => exact fun h => h
theorem seqD {f : FE} {k : D → R} {Q : VK} (S' : Sim T B G env σ H) (h : Out T EX ((f env).d k) G H Q) :
    rdV T EX B f σ H (fun v H1 => ∃ d G1, Step G H G1 H1 ∧ Dq G1 v d ∧ Sim T B G1 env σ H1 ∧ Out T EX (k d) G1 H1 Q) := by
  refine ⟨G, env, S', ?_⟩
  revert h
  cases f env with
  | val v =>
    cases v with
    | sh d => exact fun h => Out.fz fun x G' H' s q => ⟨d, G', s, q, S'.step s, Out.step h s⟩
    | ow ds => exact fun h => Out.fz fun x G' H' s q => ⟨.list ds, G', s, q, S'.step s, Out.step h s⟩
    | ob c fs => exact fun h => h.elim
    | rg r =>
      intro h v S G' H' s nd nw q
      dsimp only [R.d] at h
      split at h
      · rename_i d ed
        have s2 := s.frzS nw (RRp.at r S v q)
        exact ⟨d, addS G' H' S, s2, RRp.frz (addS_same fun a m => (nw a m).1) r S v d q (fun a m => addS_in m) ed, S'.step s2, Out.step h s2⟩
      · exact h.elim
  | err c => exact fun h => h
  | stuck => exact fun h => h
theorem rdV_mono {f : FE} {Q Q' : VK} (h : rdV T EX B f σ H Q) (q : ∀ v H', Q v H' → Q' v H') : rdV T EX B f σ H Q' :=
  let ⟨G, env, S, o⟩ := h; ⟨G, env, S, o.mono q⟩
theorem rdA_cons {f : FE} {fs : List FE} {Q : List V → Hp → Prop} (h : rdA T EX B (f :: fs) σ H Q) : rdV T EX B f σ H (fun x H1 => rdA T EX B fs σ H1 fun xs H2 => Q (x :: xs) H2) := by
  obtain ⟨G, env, S, o⟩ := h
  refine ⟨G, env, S, ?_⟩
  unfold evA at o
  revert o
  cases f env with
  | val v =>
    intro o
    refine Out.fz fun x G' H' s q => ⟨G', env, S.step s, ?_⟩
    dsimp only at o
    revert o
    cases evA fs env with
    | val as => exact fun o vs G'' H'' s' qs => o (x :: vs) G'' H'' (s.trans s') (.cons (q.mono s'.gg) qs)
    | err c => exact fun o H'' z => o H'' (s.hh.trans z)
    | stuck => exact fun o => o.elim
  | err c => exact fun o => o
  | stuck => exact fun o => o
theorem rdA_seq {fs : List FE} {k : List SV → R} {Q : VK} (S : Sim T B G env σ H) (h : Out T EX ((evA fs env).b k) G H Q) :
    rdA T EX B fs σ H (fun vs H1 => ∃ as G1, Step G H G1 H1 ∧ VRpAll T G1 vs as ∧ evA fs env = .val as ∧ Sim T B G1 env σ H1 ∧ Out T EX (k as) G1 H1 Q) := by
  refine ⟨G, env, S, ?_⟩
  revert h
  cases evA fs env with
  | val as => exact fun h vs G' H' s q => ⟨as, G', s, q, rfl, S.step s, Out.step h s⟩
  | err c => exact fun h => h
  | stuck => exact fun h => h
end

/-! ### the judgements -/
theorem pe_weak {X : Cx} {e : Expr} {t t' : TE} (h : PE X e t) (w : ∀ σ H Q, t' σ H Q → t σ H Q) : PE X e t' := ⟨fun pins s σ H Q I q => h.run pins s σ H Q I (w σ H Q q)⟩
theorem pt_weak {X : Cx} {e : Expr} {t t' : TT} (h : PT X e t) (w : ∀ σ H Q, t' σ H Q → t σ H Q) : PT X e t' := ⟨fun pins s σ H Q I q => h.run pins s σ H Q I (w σ H Q q)⟩
theorem pw_weak {X : Cx} {e : Expr} {t t' : TT} (h : PW X e t) (w : ∀ σ H Q, t' σ H Q → t σ H Q) : PW X e t' := ⟨fun wh pins s σ H Q I q => h.run wh pins s σ H Q I (w σ H Q q)⟩
theorem pa_weak {X : Cx} {es : List Expr} {t t' : TA} (h : PA X es t) (w : ∀ σ H Q, t' σ H Q → t σ H Q) : PA X es t' := ⟨fun pos pins s σ H Q I q => h.run pos pins s σ H Q I (w σ H Q q)⟩
theorem ps_weak {X : Cx} {st : Stmt} {t t' : TS} (h : PS X st t) (w : ∀ D σ H, t' D σ H → t D σ H) : PS X st t' := ⟨fun pins s σ H D I q => h.run pins s σ H D I (w D σ H q)⟩
theorem pss_weak {X : Cx} {st : List Stmt} {t t' : TS} (h : PSs X st t) (w : ∀ D σ H, t' D σ H → t D σ H) : PSs X st t' := ⟨fun pins s σ H D I q => h.run pins s σ H D I (w D σ H q)⟩
theorem pi_weak {X : Cx} {tg e : Expr} {t t' : TI} (h : PI X tg e t) (w : ∀ σ H Q, t' σ H Q → t σ H Q) : PI X tg e t' := ⟨fun pins s σ H Q I q => h.run pins s σ H Q I (w σ H Q q)⟩
/-- the context of a pure walk -/
structure Cv (X : Cx) (T : Ct) (EX : XK) (B : Hp × Hp) : Prop where
  calm : X.calm = true
  nd : X.N.Nodup
  pass : Passes (L2.CX X.prog X.w) X EX
  un : X.A.units + 150 < cLine
  gd : X.A.guards = some []
def VE (X : Cx) (T : Ct) (EX : XK) (B : Hp × Hp) (e : Expr) (f : FE) : Prop := PE X e (rdV T EX B f)
def VT (X : Cx) (T : Ct) (EX : XK) (B : Hp × Hp) (e : Expr) (f : FE) : Prop := PT X e (rdT T EX B f)
def VW (X : Cx) (T : Ct) (EX : XK) (B : Hp × Hp) (e : Expr) (f : FE) : Prop := PW X e (rdT T EX B f)
def VA (X : Cx) (T : Ct) (EX : XK) (B : Hp × Hp) (es : List Expr) (fs : List FE) : Prop := PA X es (rdA T EX B fs)
def VI (X : Cx) (T : Ct) (EX : XK) (B : Hp × Hp) (tg e : Expr) (f : FI) : Prop := PI X tg e (rdI T EX B f)
def VS (X : Cx) (T : Ct) (EX : XK) (B : Hp × Hp) (st : Stmt) (f : FS) : Prop := PS X st (rdS T EX B f)
def VSs (X : Cx) (T : Ct) (EX : XK) (B : Hp × Hp) (st : List Stmt) (f : FS) : Prop := PSs X st (rdS T EX B f)
section
variable {X : Cx} {T : Ct} {EX : XK} {B : Hp × Hp} {e a b c : Expr} {es : List Expr} {pos p p2 : Pos} {f g h : FE} {fs : List FE}

/-! ### names, constants -/
@[simp] def vVar (i : Nat) : FE := fun env => match env[i]? with
  | some (some (.sh d)) => .val (.sh d)
  | some (some (.ob c fs)) => .val (.ob c fs)
  | _ => .stuck
theorem ve_var (i : Nat) {x : Str} (hN : X.N[i]? = some x := by rfl) (hv : Vis X.env.scope x := by first | exact Or.inl rfl | exact Or.inr (Or.inl rfl) | exact Or.inr (Or.inr rfl)) (hd : (x == ("__debug__" : Str)) = false := by decide)
    (hcd : (x == ("__classdict__" : Str)) = false := by decide) : VE X T EX B (.Name x pos) (vVar i) := by
  refine pe_weak (pe_var hN hv hd hcd) fun σ H Q q => ?_
  obtain ⟨G, env, S, o⟩ := q
  unfold vVar at o
  split at o
  · rename_i d e
    obtain ⟨v, h1, h2⟩ := S.sh i d e
    exact ⟨v, h1, o v G H (Step.refl S.gh) h2⟩
  · rename_i c fs e
    obtain ⟨v, h1, h2⟩ := S.ob i c fs e
    exact ⟨v, h1, o v G H (Step.refl S.gh) h2⟩
  · exact o.elim
@[simp] def vC (d : D) : FE := fun _ => .val (.sh d)
theorem ve_int {i j} : VE X T EX B (.Constant (.int i) j pos) (vC (.int i)) := pe_weak pe_int fun σ H Q q => by
  obtain ⟨G, env, S, o⟩ := q
  exact o _ G H (Step.refl S.gh) .int
theorem ve_bl {i j} : VE X T EX B (.Constant (.bool i) j pos) (vC (.bool i)) := pe_weak pe_bl fun σ H Q q => by
  obtain ⟨G, env, S, o⟩ := q
  exact o _ G H (Step.refl S.gh) .bl
theorem ve_non {j} : VE X T EX B (.Constant .none j pos) (vC .none) := pe_weak pe_non fun σ H Q q => by
  obtain ⟨G, env, S, o⟩ := q
  exact o _ G H (Step.refl S.gh) .non
theorem ve_str {i : Str} {j} (ok : (PyData.str i).canLay0 = true := by decide +kernel) : VE X T EX B (.Constant (.str i) j pos) (vC (.str i)) := pe_weak pe_str fun σ H Q q => by
  obtain ⟨G, env, S, o⟩ := q
  exact o _ G H (Step.refl S.gh) ⟨.str i, ok⟩
/-- a module's constant, an int -/
theorem ve_gint {x : Str} {i : Int} {t : Tok} (hg : Gl X x) (hm : X.mg x = some (.int i t)) (hd : (x == ("__debug__" : Str)) = false := by decide) : VE X T EX B (.Name x pos) (vC (.int i)) := pe_weak (pe_glob (v := .int i) hg hm ⟨t, rfl⟩ hd) fun σ H Q q => by
  obtain ⟨G, env, S, o⟩ := q
  exact o _ G H (Step.refl S.gh) .int

/-! ### arguments, displays -/
theorem va_nil : VA X T EX B [] [] := pa_weak pa_nil fun σ H Q q => by
  obtain ⟨G, env, S, o⟩ := q
  exact o [] G H (Step.refl S.gh) .nil
theorem va_cons (ha : VE X T EX B e f) (hr : VA X T EX B es fs) (hs : starEach (e :: es) X.env = (false, eval e X.env) :: starEach es X.env := by rfl) : VA X T EX B (e :: es) (f :: fs) :=
  pa_weak (pa_cons ha hr hs) fun σ H Q q => rdA_cons q
/-- values that are data -/
@[simp] def dats : List SV → Option (List D)
  | [] => some []
  | .sh d :: r => (dats r).map (d :: ·)
  | _ :: _ => none
theorem dats_ok {G : Hp} : ∀ {as : List SV} {vs : List V} {ds : List D}, VRpAll T G vs as → dats as = some ds → DqAll G vs ds
  | [], _, _, .nil, e => by cases e; exact .nil
  | .sh d :: r, _, _, .cons h t, e => by
    unfold dats at e
    obtain ⟨l, e1, rfl⟩ := Option.map_eq_some_iff.mp e
    exact .cons h (dats_ok t e1)
  | .ow _ :: _, _, _, _, e => by unfold dats at e; cases e
  | .ob _ _ :: _, _, _, _, e => by unfold dats at e; cases e
  | .rg _ :: _, _, _, _, e => by unfold dats at e; cases e
/-- a size that a list or a tuple may have -/
@[simp] def gl (n : Nat) (r : R) : R := if n ≤ 1000000 then r else .stuck
theorem gl_ok {n : Nat} {r : R} (h : n ≤ 1000000) : gl n r = r := if_pos h
theorem gl_line {n : Nat} (h : n ≤ 1000000) : n < sizeLine := by rw [sizeLine_eq]; omega
@[simp] def vTup (fs : List FE) : FE := fun env => (evA fs env).b fun as => match dats as with
  | some ds => gl ds.length (.val (.sh (.tuple ds)))
  | none => .stuck
@[simp] def vLst (fs : List FE) : FE := fun env => (evA fs env).b fun as => match dats as with
  | some ds => gl ds.length (.val (.ow ds))
  | none => .stuck
theorem args_use {r : List V → Hp → VK → Prop} {k : List SV → R} {σ : L2.St} {H : Hp} {Q : VK} (prim : ∀ vs as G H, Same G H → VRpAll T G vs as → Out T EX (k as) G H Q → r vs H Q)
    (q : rdV T EX B (fun env => (evA fs env).b k) σ H Q) : rdA T EX B fs σ H (fun vs H1 => r vs H1 Q) := by
  obtain ⟨G, env, S, o⟩ := q
  obtain ⟨G2, env2, S2, o2⟩ := rdA_seq S o
  refine ⟨G2, env2, S2, ?_⟩
  revert o2
  cases evA fs env2 with
  | val as2 =>
    intro o2 vs G' H' s q
    obtain ⟨as, G1, s1, r, _, S1, o⟩ := o2 vs G' H' s q
    exact prim vs as G1 H' S1.gh r o
  | err c => exact fun o => o
  | stuck => exact fun o => o
theorem ve_tup {x1} (h : VA X T EX B es fs) : VE X T EX B (.Tuple es x1 pos) (vTup fs) := by
  refine pe_weak (pe_tup h) fun σ H Q q => args_use (r := fun xs H1 Q => xs.length ≤ sizeLine ∧ ∀ p, H1 p = none → Q (.ref p) (upd H1 p (.tup xs))) (fun vs as G H gh r o => ?_) q
  split at o
  · rename_i ds e
    have d := dats_ok r e
    unfold gl at o
    split at o
    · rename_i hl
      refine ⟨by rw [d.length]; exact Nat.le_of_lt (gl_line hl), fun p hp => ?_⟩
      exact o (.ref p) _ _ (Step.new gh hp (.tup vs)) (Dq.tup (SqT.of upd_same) (d.mono (same_upd (same_none gh hp) _)))
    · exact o.elim
  · exact o.elim
theorem ve_lst (h : VA X T EX B es fs) : VE X T EX B (.List es pos) (vLst fs) := by
  refine pe_weak (pe_lst h) fun σ H Q q => args_use (r := fun xs H1 Q => xs.length ≤ sizeLine ∧ ∀ p, H1 p = none → Q (.ref p) (upd H1 p (.lst xs))) (fun vs as G H gh r o => ?_) q
  split at o
  · rename_i ds e
    have d := dats_ok r e
    unfold gl at o
    split at o
    · rename_i hl
      refine ⟨by rw [d.length]; exact Nat.le_of_lt (gl_line hl), fun p hp => ?_⟩
      exact o p vs G _ (Step.apart gh hp (.lst vs)) hp (same_none gh hp) upd_same d
    · exact o.elim
  · exact o.elim

/-! ### two operands -/
@[simp] def op2 (F : D → D → R) (f g : FE) : FE := fun env => (f env).d fun x => (g env).d fun y => F x y
@[simp] def op1 (F : D → R) (f : FE) : FE := fun env => (f env).d F
theorem use1 {r : V → Hp → VK → Prop} {F : D → R} {σ : L2.St} {H : Hp} {Q : VK} (prim : ∀ x dx G H, Same G H → Dq G x dx → Out T EX (F dx) G H Q → r x H Q)
    (q : rdV T EX B (op1 F f) σ H Q) : rdV T EX B f σ H (fun x H1 => r x H1 Q) := by
  obtain ⟨G, env, S, o⟩ := q
  exact rdV_mono (seqD S o) fun v H1 ⟨d, G1, s, dq, S1, o1⟩ => prim v d G1 H1 S1.gh dq o1
theorem use2 {r : R2} {F : D → D → R} {σ : L2.St} {H : Hp} {Q : VK} (prim : ∀ x y dx dy G H, Same G H → Dq G x dx → Dq G y dy → Out T EX (F dx dy) G H Q → r x y H Q)
    (q : rdV T EX B (op2 F f g) σ H Q) : rdV T EX B f σ H (fun x H1 => rdV T EX B g σ H1 fun y H2 => r x y H2 Q) := by
  obtain ⟨G, env, S, o⟩ := q
  refine rdV_mono (seqD S o) fun v H1 ⟨d, G1, s, dq, S1, o1⟩ => ?_
  exact rdV_mono (seqD S1 o1) fun w H2 ⟨d2, G2, s2, dq2, S2, o2⟩ => prim v w d d2 G2 H2 S2.gh (dq.mono s2.gg) dq2 o2
theorem ve_bin {op : Operator} {r : R2} {F : D → D → R} (ho : OpR X (binaryOp op) r) (prim : ∀ Q x y dx dy G H, Same G H → Dq G x dx → Dq G y dy → Out T EX (F dx dy) G H Q → r x y H Q) (ha : VE X T EX B a f) (hb : VE X T EX B b g) :
    VE X T EX B (.BinOp a op b pos) (op2 F f g) := pe_weak (pe_op ho ha hb) fun σ H Q q => use2 (prim Q) q
theorem ve_cmp {op : CmpOp} {r : R2} {F : D → D → R} (ho : OpR X (compareOp op) r) (prim : ∀ Q x y dx dy G H, Same G H → Dq G x dx → Dq G y dy → Out T EX (F dx dy) G H Q → r x y H Q) (ha : VE X T EX B a f) (hb : VE X T EX B b g) (hm : behindInMarks op b = false) :
    VE X T EX B (.Compare a [op] [b] pos) (op2 F f g) := pe_weak (pe_cmpR ho ha hb hm) fun σ H Q q => use2 (prim Q) q
end
end VL
namespace VL
open PySem L2
/-! ### from the tracked heap to the layer's rules -/
theorem sqL_K {K : PySem.W.Frag} {H : Hp} {a : Addr} {xs : List V} (h : SqL [] H a xs) : SqL K H a xs := by
  rcases h with h | ⟨o, its, n, hk, _⟩
  · exact .inl h
  · cases hk
theorem sqT_K {K : PySem.W.Frag} {H : Hp} {a : Addr} {xs : List V} (h : SqT [] H a xs) : SqT K H a xs := by
  rcases h with h | ⟨o, its, n, hk, _⟩
  · exact .inl h
  · cases hk
mutual
theorem dp_K {K : PySem.W.Frag} {G : Hp} : ∀ (d : D) (v : V), Dp [] G v d → Dp K G v d
  | .none, _, h => by cases h; exact .non
  | .bool b, _, h => by cases h; exact .bl b
  | .int i, _, h => by cases h; exact .int i
  | .str x, _, h => by cases h; exact .str x
  | .list ds, _, h => by
    cases h with
    | lst hs ha => exact .lst (sqL_K hs) (dpAll_K ds _ ha)
  | .tuple ds, _, h => by
    cases h with
    | tup hs ha => exact .tup (sqT_K hs) (dpAll_K ds _ ha)
  | .dict _, _, h => by cases h
theorem dpAll_K {K : PySem.W.Frag} {G : Hp} : ∀ (ds : List D) (vs : List V), DpAll [] G vs ds → DpAll K G vs ds
  | [], _, h => by cases h; exact .nil
  | d :: ds, _, h => by
    cases h with
    | cons h1 h2 => exact .cons (dp_K d _ h1) (dpAll_K ds _ h2)
end
theorem Dq.K {K : PySem.W.Frag} {G : Hp} {v : V} {d : D} (h : Dq G v d) : Dp K G v d := dp_K d v h.dp
section
variable {X : Cx}
theorem rd_lst {pins : List (Addr × Obj)} {σ : L2.St} {H : Hp} {s : Shared} {l : Addr} {xs : List V} (I : Inv X pins σ H s) (hH : SqL [] H l xs) : xs.length ≤ sizeLine ∧ ∃ (its : List Value) (n : Nat), Vals xs its ∧ xs.length = its.length ∧ s.heap.get? l = some { cls := .type "list", data := .seq its.toArray n } := by
  rcases hH with h | ⟨o, its, n, hk, _⟩
  · obtain ⟨z, its, n, r, e⟩ := h.ok I.hok
    exact ⟨z, its, n, r, r.length, e⟩
  · cases hk
/-- + of two lists, changed or not -/
def rCatR : R2 := fun x y H Q => ∃ l b xs zs, x = .ref l ∧ y = .ref b ∧ SqL [] H l xs ∧ SqL [] H b zs ∧ xs.length + zs.length ≤ sizeLine ∧ ∀ p, H p = none → Q (.ref p) (upd H p (.lst (xs ++ zs)))
theorem op_catR : OpR X (binaryOp .Add) rCatR := by
  intro pins s σ H x y v u Q I rx ry h
  obtain ⟨l, b, xs, zs, rfl, rfl, hH, hB, hz, q⟩ := h
  cases rx
  cases ry
  obtain ⟨z, its, n, r, hl, e⟩ := rd_lst I hH
  obtain ⟨z2, its2, n2, r2, hl2, e2⟩ := rd_lst I hB
  refine PySem.P.add_list e e2 ?_ (by rw [List.size_toArray, List.size_toArray]; omega)
  have ea : its.toArray ++ its2.toArray = (its ++ its2).toArray := by simp
  rw [ea]
  exact ⟨.ref _, _, I.lnew (t' := s.toks) (r.append r2) (by rw [List.length_append]; omega), rfl, q _ I.fresh⟩
def rRepR : R2 := fun x y H Q => ∃ l k xs, x = .ref l ∧ y = .int k ∧ SqL [] H l xs ∧ -(2 ^ 63) ≤ k ∧ k < 2 ^ 63 ∧ xs.length * k.toNat ≤ sizeLine ∧
  ∀ p, H p = none → Q (.ref p) (upd H p (.lst (List.replicate k.toNat xs).flatten))
theorem op_repR : OpR X (binaryOp .Mult) rRepR := by
  intro pins s σ H x y v u Q I rx ry h
  obtain ⟨l, k, xs, rfl, rfl, hH, h1, h2, hz, q⟩ := h
  cases rx
  obtain ⟨t, rfl⟩ := ry
  obtain ⟨z, its, n, r, hl, e⟩ := rd_lst I hH
  have hlen : its.toArray.size * k.toNat ≤ sizeLine := by rw [List.size_toArray, ← hl]; exact hz
  have hcap : ¬ its.toArray.size * k.toNat > (2 ^ 63 - 1) / 8 := by
    have : (sizeLine : Nat) ≤ (2 ^ 63 - 1) / 8 := by decide
    omega
  have hfit : ¬ (!Builtin.List.listFitsIndex k) = true := by
    rw [fitsIndex_both h1 h2]
    exact Bool.false_ne_true
  have hlong : ¬ Builtin.List.listTooLong (its.toArray.size * k.toNat) = true := by
    rw [notLongL hlen]
    exact Bool.false_ne_true
  have hnew : List.foldl (fun x1 x2 => x1 ++ x2) #[] (List.replicate (if its.toArray.isEmpty = true then 0 else k.toNat) its.toArray) = (List.replicate k.toNat its).flatten.toArray := by
    have f0 : ∀ m : Nat, List.foldl (fun x1 x2 => x1 ++ x2) #[] (List.replicate m its.toArray) = (List.replicate m its).flatten.toArray := fun m => by
      have := foldl_rep its m []
      rw [List.nil_append] at this
      exact this
    rw [f0]
    cases its with
    | nil => simp
    | cons a r' => rw [if_neg (by simp)]
  refine wpAny_binaryOp_repeat_ref (T := "list") (U := "int") (by decide) ⟨_, e, rfl⟩ (fun s' => typeIs_int s' k t) noFill_list_mul F.fills_int_mul F.slot_int_rmul repeat_list F.slot_int_index.lookup
    (call_meets F.slot_int_rmul (typeIs_int s k t) F.entry_int_rmul (F.args_int_rmul_2 _ _) (int___rmul___int_list k t l its.toArray n)
      ⟨e, rfl, ⟨_, e, rfl⟩, call_meets F.slot_list_mul ⟨_, e, rfl⟩ F.entry_list_mul (F.args_list_mul_2 _ _) (AutoListH.list___mul___list_int_3 l its.toArray n k t hfit hcap hlong) ⟨e, ?_⟩⟩)
  rw [hnew]
  exact ⟨.ref _, _, I.lnew (t' := s.toks) (r.rep k.toNat) (by rw [PyProof.Rows.lm_len_rep_flat, Nat.mul_comm]; exact hz), rfl, q _ I.fresh⟩
theorem op_mulB : OpR X (binaryOp .Mult) (rI IntMulOk fun i j => .int (i * j)) := opI fun _ _ _ _ _ _ _ hc q => PyProof.Rows.mul_int q hc
/-- == and != of data, the lesser depth bounded -/
def rEqQ (k : Bool) : R2 := fun x y H Q => ∃ d e, Dq H x d ∧ Dq H y e ∧ min d.depth e.depth ≤ 100 ∧ Q (.bl (k ^^ PyData.eqv d e)) H
theorem op_eqQ (hu : X.A.units + 150 < cLine) : OpR X (compareOp .Eq) (rEqQ false) := by
  intro pins s σ H x y v u Q I rx ry h
  obtain ⟨d, e, hd, he, sd, q⟩ := h
  obtain ⟨as, r1⟩ := Dp.reads I d x v hd.K rx
  obtain ⟨bs, r2⟩ := Dp.reads I e y u he.K ry
  rw [Bool.false_xor] at q
  exact SeqAt.compareEq_reads r1 r2 hd.ok he.ok (by omega) ⟨.bl _, H, I, rfl, q⟩
theorem op_neQ (hu : X.A.units + 150 < cLine) : OpR X (compareOp .NotEq) (rEqQ true) := by
  intro pins s σ H x y v u Q I rx ry h
  obtain ⟨d, e, hd, he, sd, q⟩ := h
  obtain ⟨as, r1⟩ := Dp.reads I d x v hd.K rx
  obtain ⟨bs, r2⟩ := Dp.reads I e y u he.K ry
  rw [Bool.true_xor] at q
  exact SeqAt.compareNe_reads r1 r2 hd.ok he.ok (by omega) ⟨.bl _, H, I, rfl, q⟩
end

/-! ### operators on data -/
abbrev ok (d : D) : R := .val (.sh d)
abbrev rb (b : Bool) : R := .val (.sh (.bool b))
abbrev ri (i : Int) : R := .val (.sh (.int i))
def mulOk (i j : Int) : Bool := !(decide (Builtin.Int.intBits i > shortFactorBits) && decide (Builtin.Int.intBits j > shortFactorBits) && Builtin.Int.intTooBig (Builtin.Int.intBits i + Builtin.Int.intBits j))
theorem mulOk_iff {i j : Int} : mulOk i j = true ↔ IntMulOk i j := by
  unfold mulOk IntMulOk
  cases (decide (Builtin.Int.intBits i > shortFactorBits) && decide (Builtin.Int.intBits j > shortFactorBits) && Builtin.Int.intTooBig (Builtin.Int.intBits i + Builtin.Int.intBits j)) <;> simp
@[simp] def fAdd : D → D → R
  | .int i, .int j => ri (i + j)
  | .list xs, .list ys => gl (xs.length + ys.length) (.val (.ow (xs ++ ys)))
  | _, _ => .stuck
@[simp] def fSub : D → D → R
  | .int i, .int j => ri (i - j)
  | _, _ => .stuck
@[simp] def fMul : D → D → R
  | .int i, .int j => if mulOk i j = true then ri (i * j) else .stuck
  | .list xs, .int k => if k ≤ 1000000 ∧ xs.length * k.toNat ≤ 1000000 ∧ -1000 ≤ k then .val (.ow (List.replicate k.toNat xs).flatten) else .stuck
  | _, _ => .stuck
@[simp] def fDiv : D → D → R
  | .int i, .int j => if 0 < j ∧ j < 1073741824 then ri (i / j) else .stuck
  | _, _ => .stuck
@[simp] def fMod : D → D → R
  | .int i, .int j => if 0 < j then ri (i % j) else .stuck
  | _, _ => .stuck
@[simp] def fPow : D → D → R
  | .int i, .int j => if 0 ≤ j ∧ j ≤ 1000000 ∧ i.natAbs < 2 ^ 64 then ri (i ^ j.toNat) else .stuck
  | _, _ => .stuck
@[simp] def fShl : D → D → R
  | .int i, .int j => if 0 ≤ j ∧ j ≤ 1000000 ∧ i.natAbs < 2 ^ 64 then ri (i * 2 ^ j.toNat) else .stuck
  | _, _ => .stuck
@[simp] def fShr : D → D → R
  | .int i, .int j => if 0 ≤ j then ri (i / 2 ^ j.toNat) else .stuck
  | _, _ => .stuck
@[simp] def fAnd : D → D → R
  | .int i, .int j => ri (Builtin.bitAnd i j)
  | _, _ => .stuck
@[simp] def fNeg : D → R
  | .int i => ri (-i)
  | _ => .stuck
def fEq (x y : D) : R := if min x.depth y.depth ≤ 100 then rb (PyData.eqv x y) else .stuck
def fNe (x y : D) : R := if min x.depth y.depth ≤ 100 then rb (!PyData.eqv x y) else .stuck
@[simp] def fLt : D → D → R
  | .int i, .int j => rb (decide (i < j))
  | _, _ => .stuck
@[simp] def fLe : D → D → R
  | .int i, .int j => rb (decide (i ≤ j))
  | _, _ => .stuck
@[simp] def fGt : D → D → R
  | .int i, .int j => rb (decide (j < i))
  | _, _ => .stuck
@[simp] def fGe : D → D → R
  | .int i, .int j => rb (decide (j ≤ i))
  | _, _ => .stuck
@[simp] def fIx : D → D → R
  | .tuple ds, .int i => match atI ds i with
    | some d => ok d
    | none => .stuck
  | .list ds, .int i => match atI ds i with
    | some d => ok d
    | none => .stuck
  | _, _ => .stuck
section
variable {X : Cx} {T : Ct} {EX : XK} {B : Hp × Hp} {e a b c : Expr} {es : List Expr} {pos p p2 : Pos} {f g h : FE} {fs : List FE} {G H : Hp} {Q : VK}
theorem Out.ok {d : D} {v : V} (o : Out T EX (.val (.sh d)) G H Q) (gh : Same G H) (q : Dq G v d) : Q v H := o v G H (Step.refl gh) q
theorem Out.rb {k : Bool} (o : Out T EX (rb k) G H Q) (gh : Same G H) : Q (.bl k) H := o.ok gh .bl
theorem Out.ri {k : Int} (o : Out T EX (ri k) G H Q) (gh : Same G H) : Q (.int k) H := o.ok gh .int
/-- a new list -/
theorem Out.newL {ds : List D} {xs : List V} (o : Out T EX (.val (.ow ds)) G H Q) (gh : Same G H) (q : DqAll G xs ds) : ∀ p, H p = none → Q (.ref p) (upd H p (.lst xs)) := fun p hp =>
  o p xs G _ (Step.apart gh hp (.lst xs)) hp (same_none gh hp) upd_same q
theorem Dq.lstH {v : V} {ds : List D} (h : Dq G v (.list ds)) (gh : Same G H) : ∃ a xs, v = .ref a ∧ SqL [] H a xs ∧ DqAll G xs ds := by
  obtain ⟨a, xs, e, s, q⟩ := h.lstInv
  exact ⟨a, xs, e, gh.seq s, q⟩
theorem Dq.tupH {v : V} {ds : List D} (h : Dq G v (.tuple ds)) (gh : Same G H) : ∃ a xs, v = .ref a ∧ SqT [] H a xs ∧ DqAll G xs ds := by
  obtain ⟨a, xs, e, s, q⟩ := h.tupInv
  exact ⟨a, xs, e, same_seqT gh s, q⟩
theorem gl_out {n : Nat} {r : R} (o : Out T EX (gl n r) G H Q) : n ≤ 1000000 ∧ Out T EX r G H Q := by
  unfold gl at o
  split at o
  · exact ⟨by assumption, o⟩
  · exact o.elim
theorem ve_add (ha : VE X T EX B a f) (hb : VE X T EX B b g) : VE X T EX B (.BinOp a .Add b pos) (op2 fAdd f g) := by
  refine ve_bin (op_add.or op_catR) (fun Q x y dx dy G H gh hx hy o => ?_) ha hb
  unfold fAdd at o
  split at o
  · rw [hx.intInv, hy.intInv]; exact .inl ⟨_, _, rfl, rfl, o.ri gh⟩
  · obtain ⟨hl, o⟩ := gl_out o
    obtain ⟨l, xs, rfl, s1, q1⟩ := hx.lstH gh
    obtain ⟨l2, ys, rfl, s2, q2⟩ := hy.lstH gh
    exact .inr ⟨l, l2, xs, ys, rfl, rfl, s1, s2, by rw [q1.length, q2.length]; exact Nat.le_of_lt (gl_line hl), o.newL gh (q1.append q2)⟩
  · exact o.elim
theorem ve_sub (ha : VE X T EX B a f) (hb : VE X T EX B b g) : VE X T EX B (.BinOp a .Sub b pos) (op2 fSub f g) := by
  refine ve_bin op_sub (fun Q x y dx dy G H gh hx hy o => ?_) ha hb
  unfold fSub at o
  split at o
  · rw [hx.intInv, hy.intInv]; exact ⟨_, _, rfl, rfl, o.ri gh⟩
  · exact o.elim
theorem flat_rep {ds : List D} {xs : List V} (h : DqAll G xs ds) : ∀ k : Nat, DqAll G (List.replicate k xs).flatten (List.replicate k ds).flatten
  | 0 => .nil
  | k + 1 => by
    rw [List.replicate_succ, List.replicate_succ, List.flatten_cons, List.flatten_cons]
    exact h.append (flat_rep h k)
theorem ve_mul (ha : VE X T EX B a f) (hb : VE X T EX B b g) : VE X T EX B (.BinOp a .Mult b pos) (op2 fMul f g) := by
  refine ve_bin (op_mulB.or op_repR) (fun Q x y dx dy G H gh hx hy o => ?_) ha hb
  unfold fMul at o
  split at o
  · rw [hx.intInv, hy.intInv]
    split at o
    · rename_i hm; exact .inl ⟨_, _, rfl, rfl, mulOk_iff.mp hm, o.ri gh⟩
    · exact o.elim
  · rw [hy.intInv]
    split at o
    · rename_i hl
      obtain ⟨l, xs, rfl, s1, q1⟩ := hx.lstH gh
      exact .inr ⟨l, _, xs, rfl, rfl, s1, by omega, by omega, by rw [q1.length]; exact Nat.le_of_lt (gl_line hl.2.1), o.newL gh (flat_rep q1 _)⟩
    · exact o.elim
  · exact o.elim
theorem ve_fdiv (ha : VE X T EX B a f) (hb : VE X T EX B b g) : VE X T EX B (.BinOp a .FloorDiv b pos) (op2 fDiv f g) := by
  refine ve_bin op_fdiv (fun Q x y dx dy G H gh hx hy o => ?_) ha hb
  unfold fDiv at o
  split at o
  · rw [hx.intInv, hy.intInv]
    split at o
    · rename_i hm; exact ⟨_, _, rfl, rfl, hm, o.ri gh⟩
    · exact o.elim
  · exact o.elim
theorem ve_mod (ha : VE X T EX B a f) (hb : VE X T EX B b g) : VE X T EX B (.BinOp a .Mod b pos) (op2 fMod f g) := by
  refine ve_bin op_mod (fun Q x y dx dy G H gh hx hy o => ?_) ha hb
  unfold fMod at o
  split at o
  · rw [hx.intInv, hy.intInv]
    split at o
    · rename_i hm; exact ⟨_, _, rfl, rfl, hm, o.ri gh⟩
    · exact o.elim
  · exact o.elim
theorem ve_pow (ha : VE X T EX B a f) (hb : VE X T EX B b g) : VE X T EX B (.BinOp a .Pow b pos) (op2 fPow f g) := by
  refine ve_bin op_pow (fun Q x y dx dy G H gh hx hy o => ?_) ha hb
  unfold fPow at o
  split at o
  · rw [hx.intInv, hy.intInv]
    split at o
    · rename_i hm; exact ⟨_, _, rfl, rfl, hm, o.ri gh⟩
    · exact o.elim
  · exact o.elim
theorem ve_shl (ha : VE X T EX B a f) (hb : VE X T EX B b g) : VE X T EX B (.BinOp a .LShift b pos) (op2 fShl f g) := by
  refine ve_bin op_shl (fun Q x y dx dy G H gh hx hy o => ?_) ha hb
  unfold fShl at o
  split at o
  · rw [hx.intInv, hy.intInv]
    split at o
    · rename_i hm; exact ⟨_, _, rfl, rfl, hm, o.ri gh⟩
    · exact o.elim
  · exact o.elim
theorem ve_shr (ha : VE X T EX B a f) (hb : VE X T EX B b g) : VE X T EX B (.BinOp a .RShift b pos) (op2 fShr f g) := by
  refine ve_bin op_shr (fun Q x y dx dy G H gh hx hy o => ?_) ha hb
  unfold fShr at o
  split at o
  · rw [hx.intInv, hy.intInv]
    split at o
    · rename_i hm; exact ⟨_, _, rfl, rfl, hm, o.ri gh⟩
    · exact o.elim
  · exact o.elim
theorem ve_band (ha : VE X T EX B a f) (hb : VE X T EX B b g) : VE X T EX B (.BinOp a .BitAnd b pos) (op2 fAnd f g) := by
  refine ve_bin op_and (fun Q x y dx dy G H gh hx hy o => ?_) ha hb
  unfold fAnd at o
  split at o
  · rw [hx.intInv, hy.intInv]; exact ⟨_, _, rfl, rfl, o.ri gh⟩
  · exact o.elim
theorem ve_neg (ha : VE X T EX B a f) : VE X T EX B (.UnaryOp .USub a pos) (op1 fNeg f) := by
  refine pe_weak (pe_un un_neg ha) fun σ H Q q => use1 (r := fun x H Q => _) (fun x dx G H gh hx o => ?_) q
  unfold fNeg at o
  split at o
  · rw [hx.intInv]; exact ⟨_, rfl, o.ri gh⟩
  · exact o.elim

/-! ### comparisons -/
theorem eq_prim (Q : VK) (x y : V) (dx dy : D) (G H : Hp) (gh : Same G H) (hx : Dq G x dx) (hy : Dq G y dy) (o : Out T EX (fEq dx dy) G H Q) : rEqQ false x y H Q := by
  unfold fEq at o
  split at o
  · exact ⟨dx, dy, hx.mono gh, hy.mono gh, by assumption, by rw [Bool.false_xor]; exact o.rb gh⟩
  · exact o.elim
theorem ne_prim (Q : VK) (x y : V) (dx dy : D) (G H : Hp) (gh : Same G H) (hx : Dq G x dx) (hy : Dq G y dy) (o : Out T EX (fNe dx dy) G H Q) : rEqQ true x y H Q := by
  unfold fNe at o
  split at o
  · exact ⟨dx, dy, hx.mono gh, hy.mono gh, by assumption, by rw [Bool.true_xor]; exact o.rb gh⟩
  · exact o.elim
theorem lt_prim (Q : VK) (x y : V) (dx dy : D) (G H : Hp) (gh : Same G H) (hx : Dq G x dx) (hy : Dq G y dy) (o : Out T EX (fLt dx dy) G H Q) : rI0 (fun i j => .bl (decide (i < j))) x y H Q := by
  unfold fLt at o
  split at o
  · rw [hx.intInv, hy.intInv]; exact ⟨_, _, rfl, rfl, o.rb gh⟩
  · exact o.elim
theorem le_prim (Q : VK) (x y : V) (dx dy : D) (G H : Hp) (gh : Same G H) (hx : Dq G x dx) (hy : Dq G y dy) (o : Out T EX (fLe dx dy) G H Q) : rI0 (fun i j => .bl (decide (i ≤ j))) x y H Q := by
  unfold fLe at o
  split at o
  · rw [hx.intInv, hy.intInv]; exact ⟨_, _, rfl, rfl, o.rb gh⟩
  · exact o.elim
theorem gt_prim (Q : VK) (x y : V) (dx dy : D) (G H : Hp) (gh : Same G H) (hx : Dq G x dx) (hy : Dq G y dy) (o : Out T EX (fGt dx dy) G H Q) : rI0 (fun i j => .bl (decide (j < i))) x y H Q := by
  unfold fGt at o
  split at o
  · rw [hx.intInv, hy.intInv]; exact ⟨_, _, rfl, rfl, o.rb gh⟩
  · exact o.elim
theorem ge_prim (Q : VK) (x y : V) (dx dy : D) (G H : Hp) (gh : Same G H) (hx : Dq G x dx) (hy : Dq G y dy) (o : Out T EX (fGe dx dy) G H Q) : rI0 (fun i j => .bl (decide (j ≤ i))) x y H Q := by
  unfold fGe at o
  split at o
  · rw [hx.intInv, hy.intInv]; exact ⟨_, _, rfl, rfl, o.rb gh⟩
  · exact o.elim
/-- a comparison's rule: its operator and what it makes of data -/
structure Cmp (X : Cx) (T : Ct) (EX : XK) (op : CmpOp) (F : D → D → R) (r : R2) : Prop where
  ho : OpR X (compareOp op) r
  prim : ∀ Q x y dx dy G H, Same G H → Dq G x dx → Dq G y dy → Out T EX (F dx dy) G H Q → r x y H Q
theorem c_eq (C : Cv X T EX B) : Cmp X T EX .Eq fEq (rEqQ false) := ⟨op_eqQ C.un, eq_prim⟩
theorem c_ne (C : Cv X T EX B) : Cmp X T EX .NotEq fNe (rEqQ true) := ⟨op_neQ C.un, ne_prim⟩
theorem c_lt : Cmp X T EX .Lt fLt (rI0 (fun i j => .bl (decide (i < j)))) := ⟨op_lt, lt_prim⟩
theorem c_le : Cmp X T EX .LtE fLe (rI0 (fun i j => .bl (decide (i ≤ j)))) := ⟨op_le, le_prim⟩
theorem c_gt : Cmp X T EX .Gt fGt (rI0 (fun i j => .bl (decide (j < i)))) := ⟨op_gt, gt_prim⟩
theorem c_ge : Cmp X T EX .GtE fGe (rI0 (fun i j => .bl (decide (j ≤ i)))) := ⟨op_ge, ge_prim⟩
theorem ve_cm {op : CmpOp} {F : D → D → R} {r : R2} (k : Cmp X T EX op F r) (ha : VE X T EX B a f) (hb : VE X T EX B b g) (hm : behindInMarks op b = false := by first | exact nomark _ | rfl) : VE X T EX B (.Compare a [op] [b] pos) (op2 F f g) :=
  ve_cmp k.ho k.prim ha hb hm
/-! ### tests -/
@[simp] def R.t (r : R) (k : Bool → R) : R := match r with
  | .val (.sh (.bool b)) => k b
  | .err c => .err c
  | _ => .stuck
theorem t2v {f : FE} {σ : L2.St} {H : Hp} {Q : Bool → Hp → Prop} (q : rdT T EX B f σ H Q) : rdV T EX B f σ H (fun x H1 => ∃ k, x = .bl k ∧ Q k H1) := by
  obtain ⟨G, env, S, o⟩ := q
  refine ⟨G, env, S, ?_⟩
  unfold OutT at o
  split at o
  · rename_i b e
    rw [e]
    exact fun v G' H' s q => ⟨b, q.blInv, o G' H' s⟩
  · rename_i c e
    rw [e]; exact o
  · exact o.elim
theorem vt_val (h : VE X T EX B e f) (he : ∀ whole, isTrue e X.env whole = (do let v ← whole; standAt e.pos; holding [v] (truthy v)) := by intro _; rfl) : VT X T EX B e f := pt_weak (pt_val h he) fun σ H Q q => t2v q
theorem vt_cm {op : CmpOp} {F : D → D → R} {r : R2} (k : Cmp X T EX op F r) (ha : VE X T EX B a f) (hb : VE X T EX B b g) (hm : behindInMarks op b = false := by first | exact nomark _ | rfl) : VT X T EX B (.Compare a [op] [b] pos) (op2 F f g) :=
  pt_weak (pt_cmpR k.ho ha hb hm) fun σ H Q q => use2 (k.prim _) (t2v q)
/-- first a truth, then what is made of it: for a value -/
theorem seqTV {f : FE} {k : Bool → R} {env : VEnv} {σ : L2.St} {Q : VK} (S : Sim T B G env σ H) (h : Out T EX ((f env).t k) G H Q) :
    rdT T EX B f σ H (fun b H1 => ∃ G1, Sim T B G1 env σ H1 ∧ Out T EX (k b) G1 H1 Q) := by
  refine ⟨G, env, S, ?_⟩
  unfold R.t at h
  split at h
  · rename_i b e
    rw [e]
    exact fun G' H' s => ⟨G', S.step s, Out.step h s⟩
  · rename_i c e
    rw [e]; exact h
  · exact h.elim
theorem OutT.step {r : R} {Q : Bool → Hp → Prop} {G1 H1 : Hp} (h : OutT T EX r G H Q) (s : Step G H G1 H1) : OutT T EX r G1 H1 Q := by
  unfold OutT at h ⊢
  split at h
  · exact fun G' H' s' => h G' H' (s.trans s')
  · exact fun H' q => h H' (s.hh.trans q)
  · exact h.elim
theorem seqTT {f : FE} {k : Bool → R} {env : VEnv} {σ : L2.St} {Q : Bool → Hp → Prop} (S : Sim T B G env σ H) (h : OutT T EX ((f env).t k) G H Q) :
    rdT T EX B f σ H (fun b H1 => ∃ G1, Sim T B G1 env σ H1 ∧ OutT T EX (k b) G1 H1 Q) := by
  refine ⟨G, env, S, ?_⟩
  cases e : f env with
  | val v =>
    rw [e] at h
    cases v with
    | sh d =>
      cases d with
      | bool b => exact fun G' H' s => ⟨G', S.step s, OutT.step h s⟩
      | _ => exact h.elim
    | _ => exact h.elim
  | err c => rw [e] at h; exact h
  | stuck => rw [e] at h; exact h.elim
theorem rdT_mono {f : FE} {σ : L2.St} {Q Q' : Bool → Hp → Prop} (h : rdT T EX B f σ H Q) (q : ∀ b H', Q b H' → Q' b H') : rdT T EX B f σ H Q' := by
  obtain ⟨G, env, S, o⟩ := h
  refine ⟨G, env, S, ?_⟩
  unfold OutT at o ⊢
  split at o
  · exact fun G' H' s' => q _ _ (o G' H' s')
  · exact o
  · exact o.elim
@[simp] def vNot (f : FE) : FE := fun env => (f env).t fun b => rb (!b)
@[simp] def vAnd (f g : FE) : FE := fun env => (f env).t fun b => if b = true then g env else rb false
@[simp] def vOr (f g : FE) : FE := fun env => (f env).t fun b => if b = true then rb true else g env
@[simp] def vIf (c f g : FE) : FE := fun env => (c env).t fun b => if b = true then f env else g env
theorem vt_not (ha : VT X T EX B a f) : VT X T EX B (.UnaryOp .Not a pos) (vNot f) := pt_weak (pt_not ha) fun σ H Q q => by
  obtain ⟨G, env, S, o⟩ := q
  exact rdT_mono (seqTT S o) fun b H1 ⟨G1, S1, o1⟩ => o1 G1 H1 (Step.refl S1.gh)
theorem vw_and1 (ha : VT X T EX B a f) : VW X T EX B (.BoolOp .And [a] pos) f := L2.pw_and1 ha
theorem vw_or1 (ha : VT X T EX B a f) : VW X T EX B (.BoolOp .Or [a] pos) f := L2.pw_or1 ha
theorem vw_and {b : Expr} {rest : List Expr} (ha : VT X T EX B a f) (hb : VW X T EX B (.BoolOp .And (b :: rest) pos) g) : VW X T EX B (.BoolOp .And (a :: b :: rest) pos) (vAnd f g) := pw_weak (L2.pw_and ha hb) fun σ H Q q => by
  obtain ⟨G, env, S, o⟩ := q
  refine rdT_mono (seqTT S o) fun b H1 ⟨G1, S1, o1⟩ => ?_
  cases b with
  | true => exact ⟨G1, env, S1, o1⟩
  | false => exact o1 G1 H1 (Step.refl S1.gh)
theorem vw_or {b : Expr} {rest : List Expr} (ha : VT X T EX B a f) (hb : VW X T EX B (.BoolOp .Or (b :: rest) pos) g) : VW X T EX B (.BoolOp .Or (a :: b :: rest) pos) (vOr f g) := pw_weak (L2.pw_or ha hb) fun σ H Q q => by
  obtain ⟨G, env, S, o⟩ := q
  refine rdT_mono (seqTT S o) fun b H1 ⟨G1, S1, o1⟩ => ?_
  cases b with
  | true => exact o1 G1 H1 (Step.refl S1.gh)
  | false => exact ⟨G1, env, S1, o1⟩
theorem vt_w (h : VW X T EX B e f) : VT X T EX B e f := PW.pt h
theorem v2t {f : FE} {k : Bool → R} {σ : L2.St} {Q : VK} {env : VEnv} (S : Sim T B G env σ H) (o : Out T EX ((f env).t k) G H Q) : rdV T EX B f σ H (fun x H1 => ∃ c, x = .bl c ∧ ∃ G1, Sim T B G1 env σ H1 ∧ Out T EX (k c) G1 H1 Q) := by
  obtain h := t2v (seqTV S o)
  exact h
theorem ve_not (ha : VE X T EX B a f) : VE X T EX B (.UnaryOp .Not a pos) (vNot f) := pe_weak (pe_not ha) fun σ H Q q => by
  obtain ⟨G, env, S, o⟩ := q
  exact rdV_mono (v2t S o) fun x H1 ⟨c, e, G1, S1, o1⟩ => ⟨c, e, o1.rb S1.gh⟩
theorem ve_one {op} (h : VE X T EX B a f) : VE X T EX B (.BoolOp op [a] pos) f := pe_one h
theorem ve_and {b : Expr} {rest : List Expr} (ha : VE X T EX B a f) (hb : VE X T EX B (.BoolOp .And (b :: rest) pos) g) : VE X T EX B (.BoolOp .And (a :: b :: rest) pos) (vAnd f g) := pe_weak (pe_and ha hb) fun σ H Q q => by
  obtain ⟨G, env, S, o⟩ := q
  refine rdV_mono (v2t S o) fun x H1 ⟨c, e, G1, S1, o1⟩ => ⟨c, e, ?_⟩
  cases c with
  | true => exact ⟨G1, env, S1, o1⟩
  | false => exact o1.rb S1.gh
theorem ve_or {b : Expr} {rest : List Expr} (ha : VE X T EX B a f) (hb : VE X T EX B (.BoolOp .Or (b :: rest) pos) g) : VE X T EX B (.BoolOp .Or (a :: b :: rest) pos) (vOr f g) := pe_weak (pe_or ha hb) fun σ H Q q => by
  obtain ⟨G, env, S, o⟩ := q
  refine rdV_mono (v2t S o) fun x H1 ⟨c, e, G1, S1, o1⟩ => ⟨c, e, ?_⟩
  cases c with
  | true => exact o1.rb S1.gh
  | false => exact ⟨G1, env, S1, o1⟩
theorem ve_if (hc : VT X T EX B c h) (ha : VE X T EX B a f) (hb : VE X T EX B b g) : VE X T EX B (.IfExp c a b pos) (vIf h f g) := pe_weak (pe_ifExp hc ha hb) fun σ H Q q => by
  obtain ⟨G, env, S, o⟩ := q
  refine rdT_mono (seqTV S o) fun b H1 ⟨G1, S1, o1⟩ => ?_
  cases b with
  | true => exact ⟨G1, env, S1, o1⟩
  | false => exact ⟨G1, env, S1, o1⟩
/-- a < b < c -/
@[simp] def vChn (F F' : D → D → R) (f g h : FE) : FE := fun env => (f env).d fun x => (g env).d fun y => (F x y).t fun b => if b = true then (h env).d fun z => F' y z else rb false
end
end VL
namespace VL
open PySem L2
section
variable {X : Cx} {T : Ct} {EX : XK} {B : Hp × Hp} {e a b c o : Expr} {es : List Expr} {pos p p2 : Pos} {f g h : FE} {fs : List FE} {G H : Hp} {Q : VK}
theorem out_t {r : R} {k : Bool → R} (q : Out T EX (r.t k) G H Q) (gh : Same G H) : Out T EX r G H (fun z H3 => ∃ b, z = .bl b ∧ ∃ G3, Step G H G3 H3 ∧ Out T EX (k b) G3 H3 Q) := by
  unfold R.t at q
  split at q
  · rename_i b
    exact fun v G' H' s d => ⟨b, d.blInv, G', s, Out.step q s⟩
  · exact q
  · exact q.elim
theorem chn_use {F F' : D → D → R} {r r' : R2} {op op' : CmpOp} (k : Cmp X T EX op F r) (k' : Cmp X T EX op' F' r') {σ : L2.St} (q : rdV T EX B (vChn F F' f g h) σ H Q) : tChain r r' (rdV T EX B f) (rdV T EX B g) (rdV T EX B h) σ H Q := by
  obtain ⟨G, env, S, o⟩ := q
  refine rdV_mono (seqD S o) fun x H1 ⟨dx, G1, s1, q1, S1, o1⟩ => rdV_mono (seqD S1 o1) fun y H2 ⟨dy, G2, s2, q2, S2, o2⟩ => ?_
  refine k.prim _ x y dx dy G2 H2 S2.gh (q1.mono s2.gg) q2 ((out_t o2 S2.gh).mono fun z H3 ⟨b, e, G3, s3, o3⟩ => ⟨b, e, ?_⟩)
  cases b with
  | true =>
    exact rdV_mono (seqD (S2.step s3) o3) fun w H4 ⟨dw, G4, s4, q4, S4, o4⟩ => k'.prim _ y w dy dw G4 H4 S4.gh (q2.mono (s3.gg.trans s4.gg)) q4 o4
  | false => exact o3.rb s3.gh
theorem ve_chn {F F' : D → D → R} {r r' : R2} {op op' : CmpOp} (k : Cmp X T EX op F r) (k' : Cmp X T EX op' F' r') (ha : VE X T EX B a f) (hb : VE X T EX B b g) (hc : VE X T EX B c h) (hm : lastMarks [op, op'] [b, c] = false := by with_unfolding_all rfl) :
    VE X T EX B (.Compare a [op, op'] [b, c] pos) (vChn F F' f g h) := pe_weak (pe_chain k.ho k'.ho ha hb hc hm) fun σ H Q q => chn_use k k' q
theorem vt_chn {F F' : D → D → R} {r r' : R2} {op op' : CmpOp} (k : Cmp X T EX op F r) (k' : Cmp X T EX op' F' r') (ha : VE X T EX B a f) (hb : VE X T EX B b g) (hc : VE X T EX B c h) (hm : lastMarks [op, op'] [b, c] = false := by with_unfolding_all rfl) :
    VT X T EX B (.Compare a [op, op'] [b, c] pos) (vChn F F' f g h) := pt_weak (pt_chain k.ho k'.ho ha hb hc hm) fun σ H Q q => chn_use k k' (t2v q)

/-! ### items, slices -/
theorem DqAll.atI {ds : List D} {xs : List V} {i : Int} {d : D} (q : DqAll G xs ds) (e : atI ds i = some d) : ∃ v, L2.atI xs i = some v ∧ Dq G v d := by
  unfold L2.atI at e ⊢
  rw [q.length]
  cases z : ixN ds.length i with
  | none => rw [z] at e; cases e
  | some j =>
    rw [z] at e
    exact q.get e
theorem ve_ix (ha : VE X T EX B a f) (hb : VE X T EX B b g) (hs : PlainIx b := by intro _ _; rfl) : VE X T EX B (.Subscript a b pos) (op2 fIx f g) := by
  refine pe_weak (pe_ix (ix_list.or ix_tup) ha hb hs) fun σ H Q q => use2 (r := fun x y H Q => rIxL X.K x y H Q ∨ rIxT X.K x y H Q) (fun x y dx dy G H gh hx hy o => ?_) q
  unfold fIx at o
  split at o
  · rw [hy.intInv]
    split at o
    · rename_i d e
      obtain ⟨l, xs, rfl, s1, q1⟩ := hx.tupH gh
      obtain ⟨v, e1, d1⟩ := q1.atI e
      exact .inr ⟨l, xs, _, v, rfl, rfl, sqT_K s1, e1, o.ok gh d1⟩
    · exact o.elim
  · rw [hy.intInv]
    split at o
    · rename_i d e
      obtain ⟨l, xs, rfl, s1, q1⟩ := hx.lstH gh
      obtain ⟨v, e1, d1⟩ := q1.atI e
      exact .inl ⟨l, xs, _, v, rfl, rfl, sqL_K s1, e1, o.ok gh d1⟩
    · exact o.elim
  · exact o.elim
def cutD (xs : List D) (lo hi : Option Int) : List D := (xs.drop (HT.sIx xs.length 0 lo)).take (HT.sIx xs.length xs.length hi - HT.sIx xs.length 0 lo)
theorem DqAll.cut {ds : List D} {xs : List V} (q : DqAll G xs ds) (lo hi : Option Int) : DqAll G (cutV xs lo hi) (cutD ds lo hi) := by
  unfold cutV cutD
  rw [q.length]
  exact (q.drop _).take _
/-- xs[lo:hi] of a list -/
@[simp] def fSl (lo hi : Option Int) : D → R
  | .list xs => .val (.ow (cutD xs lo hi))
  | .tuple xs => if (cutD xs lo hi).length < xs.length then ok (.tuple (cutD xs lo hi)) else .stuck
  | _ => .stuck
@[simp] def R.i (r : R) (k : Int → R) : R := match r with
  | .val (.sh (.int i)) => k i
  | .err c => .err c
  | _ => .stuck
theorem seqI {k : Int → R} {env : VEnv} {σ : L2.St} (S : Sim T B G env σ H) (q : Out T EX ((f env).i k) G H Q) : rdV T EX B f σ H (fun v H1 => ∃ i G1, v = .int i ∧ Step G H G1 H1 ∧ Sim T B G1 env σ H1 ∧ Out T EX (k i) G1 H1 Q) := by
  refine ⟨G, env, S, ?_⟩
  unfold R.i at q
  split at q
  · rename_i i e
    rw [e]
    exact fun v G' H' s d => ⟨i, G', d.intInv, s, S.step s, Out.step q s⟩
  · rename_i c e
    rw [e]; exact q
  · exact q.elim
@[simp] def vSl2 (f g h : FE) : FE := fun env => (f env).d fun x => (g env).i fun lo => (h env).i fun hi => fSl (some lo) (some hi) x
@[simp] def vSlL (f g : FE) : FE := fun env => (f env).d fun x => (g env).i fun lo => fSl (some lo) none x
@[simp] def vSlH (f g : FE) : FE := fun env => (f env).d fun x => (g env).i fun hi => fSl none (some hi) x
theorem sl_prim {K : PySem.W.Frag} {x : V} {dx : D} {lo hi : Option Int} (gh : Same G H) (hx : Dq G x dx) (o : Out T EX (fSl lo hi dx) G H Q) : rSlL K x lo hi H Q ∨ rSlT K x lo hi H Q := by
  unfold fSl at o
  split at o
  · obtain ⟨l, xs, rfl, s1, q1⟩ := hx.lstH gh
    exact .inl ⟨l, xs, rfl, sqL_K s1, o.newL gh (q1.cut lo hi)⟩
  · split at o
    · rename_i n
      obtain ⟨l, xs, rfl, s1, q1⟩ := hx.tupH gh
      refine .inr ⟨l, xs, rfl, sqT_K s1, fun z => ?_, fun p hp => o (.ref p) _ _ (Step.new gh hp _) (Dq.tup (.inl (.inl upd_same)) ((q1.cut lo hi).mono (same_upd (same_none gh hp) _)))⟩
      have e := q1.length
      unfold cutD at n
      rw [← e, z.1, z.2, List.drop_zero, Nat.sub_zero, List.length_take] at n
      omega
    · exact o.elim
  · exact o.elim
theorem ve_sl2 (ha : VE X T EX B a f) (hb : VE X T EX B b g) (hc : VE X T EX B c h) : VE X T EX B (.Subscript a (.Slice (some b) (some c) none p2) pos) (vSl2 f g h) :=
  pe_weak (pe_slice (sl_list.or sl_tup) ha (po_some hb) (po_some hc)) fun σ H Q q => by
    obtain ⟨G, env, S, o⟩ := q
    exact rdV_mono (seqD S o) fun x H1 ⟨dx, G1, s1, q1, S1, o1⟩ => rdV_mono (seqI S1 o1) fun y H2 ⟨i, G2, e2, s2, S2, o2⟩ => ⟨i, e2,
      rdV_mono (seqI S2 o2) fun z H3 ⟨j, G3, e3, s3, S3, o3⟩ => ⟨j, e3, sl_prim S3.gh ((q1.mono s2.gg).mono s3.gg) o3⟩⟩
theorem ve_slL (ha : VE X T EX B a f) (hb : VE X T EX B b g) : VE X T EX B (.Subscript a (.Slice (some b) none none p2) pos) (vSlL f g) :=
  pe_weak (pe_slice (sl_list.or sl_tup) ha (po_some hb) po_none) fun σ H Q q => by
    obtain ⟨G, env, S, o⟩ := q
    exact rdV_mono (seqD S o) fun x H1 ⟨dx, G1, s1, q1, S1, o1⟩ => rdV_mono (seqI S1 o1) fun y H2 ⟨i, G2, e2, s2, S2, o2⟩ => ⟨i, e2, sl_prim S2.gh (q1.mono s2.gg) o2⟩
theorem ve_slH (ha : VE X T EX B a f) (hb : VE X T EX B b g) : VE X T EX B (.Subscript a (.Slice none (some b) none p2) pos) (vSlH f g) :=
  pe_weak (pe_slice (sl_list.or sl_tup) ha po_none (po_some hb)) fun σ H Q q => by
    obtain ⟨G, env, S, o⟩ := q
    exact rdV_mono (seqD S o) fun x H1 ⟨dx, G1, s1, q1, S1, o1⟩ => rdV_mono (seqI S1 o1) fun y H2 ⟨i, G2, e2, s2, S2, o2⟩ => ⟨i, e2, sl_prim S2.gh (q1.mono s2.gg) o2⟩
@[simp] def fRev : D → R
  | .list xs => .val (.ow xs.reverse)
  | _ => .stuck
theorem ve_rev {k : Nat} {p1 p3 : Pos} (ha : VE X T EX B a f) : VE X T EX B (.Subscript a (.Slice none none (some (.UnaryOp .USub (.Constant (.int 1) k p1) p2)) p3) pos) (op1 fRev f) :=
  pe_weak (pe_revL ha) fun σ H Q q => use1 (r := fun x H1 Q => ∃ a xs, x = .ref a ∧ SqL X.K H1 a xs ∧ ∀ p, H1 p = none → Q (.ref p) (upd H1 p (.lst xs.reverse))) (fun x dx G H gh hx o => by
    unfold fRev at o
    split at o
    · obtain ⟨l, xs, rfl, s1, q1⟩ := hx.lstH gh
      exact ⟨l, xs, rfl, sqL_K s1, o.newL gh q1.reverse⟩
    · exact o.elim) q

/-! ### built-in functions -/
/-- f(a): one argument that is data -/
@[simp] def cal1 (F : D → R) (f : FE) : FE := fun env => (evA [f] env).b fun as => match as with
  | [.sh d] => F d
  | _ => .stuck
@[simp] def cal2 (F : D → D → R) (f g : FE) : FE := fun env => (evA [f, g] env).b fun as => match as with
  | [.sh d, .sh e] => F d e
  | _ => .stuck
theorem ve_cal1 {x : Str} {id : String} {r : List V → Hp → VK → Prop} {F : D → R} (hc : CallR X (.builtin id) r) (prim : ∀ Q v d G H, Same G H → Dq G v d → Out T EX (F d) G H Q → r [v] H Q) (hg : Gl X x) (hm : X.mg x = none) (hv : bootBuiltins x = some (.builtin id)) (ha : VE X T EX B a f)
    (hs : starEach [a] X.env = [(false, eval a X.env)] := by rfl) (hn : x ≠ "__name__" := by decide) (hdb : (x == ("__debug__" : Str)) = false := by decide) (hpl : ∀ q : Pos, ((backTo q (starEach [] X.env)).any fun z => z.1) = false := by intro _; rfl) :
    VE X T EX B (.Call (.Name x p) [a] [] pos) (cal1 F f) := by
  refine pe_weak (pe_callB hc hg hm hv (va_cons ha va_nil hs) hn hdb hs (hpl pos)) fun σ H Q q => args_use (fun vs as G H gh rp o => ?_) q
  split at o
  · cases rp with
    | cons h1 t =>
      cases t
      exact prim Q _ _ G H gh h1 o
  · exact o.elim
theorem ve_cal1T {x : Str} {id : String} {r : List V → Hp → VK → Prop} {F : D → R} (hc : CallR X (.type id) r) (prim : ∀ Q v d G H, Same G H → Dq G v d → Out T EX (F d) G H Q → r [v] H Q) (hg : Gl X x) (hm : X.mg x = none) (hv : bootBuiltins x = some (.type id)) (ha : VE X T EX B a f)
    (hs : starEach [a] X.env = [(false, eval a X.env)] := by rfl) (hn : x ≠ "__name__" := by decide) (hdb : (x == ("__debug__" : Str)) = false := by decide) (hpl : ∀ q : Pos, ((backTo q (starEach [] X.env)).any fun z => z.1) = false := by intro _; rfl) :
    VE X T EX B (.Call (.Name x p) [a] [] pos) (cal1 F f) := by
  refine pe_weak (pe_callTy hc hg hm hv (va_cons ha va_nil hs) hn hdb hs (hpl pos)) fun σ H Q q => args_use (fun vs as G H gh rp o => ?_) q
  split at o
  · cases rp with
    | cons h1 t =>
      cases t
      exact prim Q _ _ G H gh h1 o
  · exact o.elim
end
end VL
namespace VL
open PySem L2
/-! ### lists of ints, of truths -/
@[simp] def intsOf : List D → Option (List Int)
  | [] => some []
  | .int i :: r => (intsOf r).map (i :: ·)
  | _ :: _ => none
@[simp] def blsOf : List D → Option (List Bool)
  | [] => some []
  | .bool i :: r => (blsOf r).map (i :: ·)
  | _ :: _ => none
theorem intsOf_map : ∀ ns : List Int, intsOf (ns.map PyData.int) = some ns
  | [] => rfl
  | n :: r => by simp only [List.map_cons, intsOf, intsOf_map r, Option.map_some]
theorem blsOf_map : ∀ ns : List Bool, blsOf (ns.map PyData.bool) = some ns
  | [] => rfl
  | n :: r => by simp only [List.map_cons, blsOf, blsOf_map r, Option.map_some]
section
variable {G H : Hp}
theorem intsOf_ok : ∀ {ds : List D} {ns : List Int} {xs : List V}, intsOf ds = some ns → DqAll G xs ds → xs = ns.map V.int
  | [], _, _, e, q => by cases e; exact q.inv0
  | d :: ds, ns, xs, e, q => by
    obtain ⟨v, vs, rfl, q1, q2⟩ := q.inv
    cases d with
    | int i =>
      unfold intsOf at e
      obtain ⟨l, e1, rfl⟩ := Option.map_eq_some_iff.mp e
      rw [q1.intInv, intsOf_ok e1 q2, List.map_cons]
    | _ => cases e
theorem blsOf_ok : ∀ {ds : List D} {ns : List Bool} {xs : List V}, blsOf ds = some ns → DqAll G xs ds → xs = ns.map V.bl
  | [], _, _, e, q => by cases e; exact q.inv0
  | d :: ds, ns, xs, e, q => by
    obtain ⟨v, vs, rfl, q1, q2⟩ := q.inv
    cases d with
    | bool i =>
      unfold blsOf at e
      obtain ⟨l, e1, rfl⟩ := Option.map_eq_some_iff.mp e
      rw [q1.blInv, blsOf_ok e1 q2, List.map_cons]
    | _ => cases e
theorem dq_ints : ∀ ns : List Int, DqAll G (ns.map V.int) (ns.map PyData.int)
  | [] => .nil
  | _ :: r => .cons .int (dq_ints r)
end
/-- sorted -/
def srt (ns : List Int) : List Int := ns.mergeSort
theorem srt_perm (ns : List Int) : (srt ns).Perm ns := List.mergeSort_perm ns _
theorem srt_le (ns : List Int) : (srt ns).Pairwise (· ≤ ·) := by
  have h := List.pairwise_mergeSort (le := fun (a b : Int) => decide (a ≤ b)) (fun a b c h1 h2 => by simp only [decide_eq_true_eq] at *; omega) (fun a b => by simp only [Bool.or_eq_true, decide_eq_true_eq]; omega) ns
  exact h.imp fun h => by simpa using h
theorem srt_one : ∀ {l m : List Int}, l.Perm m → l.Pairwise (· ≤ ·) → m.Pairwise (· ≤ ·) → l = m := fun h h1 h2 => h.eq_of_pairwise (fun a b _ _ h3 h4 => Int.le_antisymm h3 h4) h1 h2
theorem srt_of {l ns : List Int} (h : l.Perm ns) (h1 : l.Pairwise (· ≤ ·)) : l = srt ns := srt_one (h.trans (srt_perm ns).symm) h1 (srt_le ns)
theorem srt_congr {l m : List Int} (h : l.Perm m) : srt l = srt m := srt_of ((srt_perm l).trans h) (srt_le l)
/-- the least, the greatest -/
def lmin : List Int → Option Int
  | [] => none
  | x :: r => some (r.foldl min x)
def lmax : List Int → Option Int
  | [] => none
  | x :: r => some (r.foldl max x)
theorem foldmin_spec : ∀ (r : List Int) (x : Int), (r.foldl min x = x ∨ r.foldl min x ∈ r) ∧ r.foldl min x ≤ x ∧ ∀ y ∈ r, r.foldl min x ≤ y
  | [], x => ⟨.inl rfl, Int.le_refl _, by simp⟩
  | z :: r, x => by
    obtain ⟨h1, h2, h3⟩ := foldmin_spec r (min x z)
    rw [List.foldl_cons]
    refine ⟨?_, by omega, fun y hy => ?_⟩
    · rcases h1 with h1 | h1
      · rw [h1]
        rcases Int.le_total x z with q | q
        · rw [Int.min_eq_left q]; exact .inl rfl
        · rw [Int.min_eq_right q]; exact .inr List.mem_cons_self
      · exact .inr (List.mem_cons_of_mem _ h1)
    · rcases List.mem_cons.mp hy with rfl | hy
      · omega
      · exact h3 y hy
theorem foldmax_spec : ∀ (r : List Int) (x : Int), (r.foldl max x = x ∨ r.foldl max x ∈ r) ∧ x ≤ r.foldl max x ∧ ∀ y ∈ r, y ≤ r.foldl max x
  | [], x => ⟨.inl rfl, Int.le_refl _, by simp⟩
  | z :: r, x => by
    obtain ⟨h1, h2, h3⟩ := foldmax_spec r (max x z)
    rw [List.foldl_cons]
    refine ⟨?_, by omega, fun y hy => ?_⟩
    · rcases h1 with h1 | h1
      · rw [h1]
        rcases Int.le_total x z with q | q
        · rw [Int.max_eq_right q]; exact .inr List.mem_cons_self
        · rw [Int.max_eq_left q]; exact .inl rfl
      · exact .inr (List.mem_cons_of_mem _ h1)
    · rcases List.mem_cons.mp hy with rfl | hy
      · omega
      · exact h3 y hy
theorem lmin_spec {ns : List Int} {m : Int} (h : lmin ns = some m) : m ∈ ns ∧ ∀ y ∈ ns, m ≤ y := by
  cases ns with
  | nil => cases h
  | cons x r =>
    cases h
    obtain ⟨h1, h2, h3⟩ := foldmin_spec r x
    exact ⟨h1.elim (fun e => by rw [e]; exact List.mem_cons_self) (fun e => List.mem_cons_of_mem _ e), fun y hy => (List.mem_cons.mp hy).elim (fun e => by rw [e]; exact h2) (h3 y)⟩
theorem lmax_spec {ns : List Int} {m : Int} (h : lmax ns = some m) : m ∈ ns ∧ ∀ y ∈ ns, y ≤ m := by
  cases ns with
  | nil => cases h
  | cons x r =>
    cases h
    obtain ⟨h1, h2, h3⟩ := foldmax_spec r x
    exact ⟨h1.elim (fun e => by rw [e]; exact List.mem_cons_self) (fun e => List.mem_cons_of_mem _ e), fun y hy => (List.mem_cons.mp hy).elim (fun e => by rw [e]; exact h2) (h3 y)⟩
/-- of a list of ints -/
@[simp] def onInts (k : List Int → R) : D → R
  | .list ds => match intsOf ds with
    | some ns => k ns
    | none => .stuck
  | _ => .stuck
@[simp] def onBls (k : List Bool → R) : D → R
  | .list ds => match blsOf ds with
    | some ns => k ns
    | none => .stuck
  | _ => .stuck
@[simp] def fLen : D → R
  | .list ds => ri ds.length
  | .tuple ds => ri ds.length
  | _ => .stuck
@[simp] def fSum : D → R := onInts fun ns => ri ns.sum
@[simp] def fMin1 : D → R := onInts fun ns => match lmin ns with
  | some m => ri m
  | none => .stuck
@[simp] def fMax1 : D → R := onInts fun ns => match lmax ns with
  | some m => ri m
  | none => .stuck
@[simp] def fSorted : D → R := onInts fun ns => .val (.ow ((srt ns).map .int))
@[simp] def fAny : D → R := onBls fun bs => rb (bs.any id)
@[simp] def fAll : D → R := onBls fun bs => rb (bs.all id)
@[simp] def fAbs : D → R
  | .int i => ri (if i < 0 then -i else i)
  | _ => .stuck
@[simp] def fInt : D → R
  | .int i => ri i
  | .bool k => ri (if k then 1 else 0)
  | _ => .stuck
@[simp] def fList : D → R
  | .list ds => .val (.ow ds)
  | .tuple ds => .val (.ow ds)
  | _ => .stuck
@[simp] def fMax2 : D → D → R
  | .int i, .int j => ri (if j > i then j else i)
  | _, _ => .stuck
@[simp] def fMin2 : D → D → R
  | .int i, .int j => ri (if j < i then j else i)
  | _, _ => .stuck
section
variable {X : Cx} {T : Ct} {EX : XK} {B : Hp × Hp} {e a b c o : Expr} {es : List Expr} {pos p p2 : Pos} {f g h : FE} {fs : List FE} {G H : Hp} {Q : VK}
theorem ints_out {k : List Int → R} {d : D} {v : V} (gh : Same G H) (hv : Dq G v d) (o : Out T EX (onInts k d) G H Q) : ∃ l ns, v = .ref l ∧ SqL [] H l (ns.map V.int) ∧ Out T EX (k ns) G H Q := by
  unfold onInts at o
  split at o
  · split at o
    · rename_i ns e
      obtain ⟨l, xs, rfl, s1, q1⟩ := hv.lstH gh
      rw [intsOf_ok e q1] at s1
      exact ⟨l, ns, rfl, s1, o⟩
    · exact o.elim
  · exact o.elim
theorem bls_out {k : List Bool → R} {d : D} {v : V} (gh : Same G H) (hv : Dq G v d) (o : Out T EX (onBls k d) G H Q) : ∃ l ns, v = .ref l ∧ SqL [] H l (ns.map V.bl) ∧ Out T EX (k ns) G H Q := by
  unfold onBls at o
  split at o
  · split at o
    · rename_i ns e
      obtain ⟨l, xs, rfl, s1, q1⟩ := hv.lstH gh
      rw [blsOf_ok e q1] at s1
      exact ⟨l, ns, rfl, s1, o⟩
    · exact o.elim
  · exact o.elim
variable (X) in
/-- that a name is global in the def, and free in the module -/
structure Bt (x : Str) : Prop where
  gl : Gl X x
  mg : X.mg x = none
theorem ve_len (t : Bt X "len") (ha : VE X T EX B a f) (hs : starEach [a] X.env = [(false, eval a X.env)] := by rfl) : VE X T EX B (.Call (.Name "len" p) [a] [] pos) (cal1 fLen f) :=
  ve_cal1 call_len_seq (fun Q v d G H gh hv o => by
    unfold fLen at o
    split at o
    · obtain ⟨l, xs, rfl, s1, q1⟩ := hv.lstH gh
      exact ⟨l, xs, rfl, .inl (sqL_K s1), by rw [q1.length]; exact o.ri gh⟩
    · obtain ⟨l, xs, rfl, s1, q1⟩ := hv.tupH gh
      exact ⟨l, xs, rfl, .inr (sqT_K s1), by rw [q1.length]; exact o.ri gh⟩
    · exact o.elim) t.gl t.mg PySem.boot_len ha hs
theorem ve_sum (C : Cv X T EX B) (t : Bt X "sum") (ha : VE X T EX B a f) (hs : starEach [a] X.env = [(false, eval a X.env)] := by rfl) : VE X T EX B (.Call (.Name "sum" p) [a] [] pos) (cal1 fSum f) :=
  ve_cal1 (cr_sum C.calm) (fun Q v d G H gh hv o => by
    obtain ⟨l, ns, rfl, s, o⟩ := ints_out gh hv o
    exact ⟨l, ns, rfl, sqL_K s, o.ri gh⟩) t.gl t.mg (by decide +kernel) ha hs
theorem ve_min1 (C : Cv X T EX B) (t : Bt X "min") (ha : VE X T EX B a f) (hs : starEach [a] X.env = [(false, eval a X.env)] := by rfl) : VE X T EX B (.Call (.Name "min" p) [a] [] pos) (cal1 fMin1 f) :=
  ve_cal1 (cr_min C.calm) (fun Q v d G H gh hv o => by
    obtain ⟨l, ns, rfl, s, o⟩ := ints_out gh hv o
    split at o
    · rename_i m e
      obtain ⟨h1, h2⟩ := lmin_spec e
      refine ⟨l, ns, rfl, sqL_K s, List.length_pos_of_mem h1, fun m' h3 h4 => ?_⟩
      have : m' = m := Int.le_antisymm (h4 m h1) (h2 m' h3)
      rw [this]; exact o.ri gh
    · exact o.elim) t.gl t.mg (by decide +kernel) ha hs
theorem ve_max1 (C : Cv X T EX B) (t : Bt X "max") (ha : VE X T EX B a f) (hs : starEach [a] X.env = [(false, eval a X.env)] := by rfl) : VE X T EX B (.Call (.Name "max" p) [a] [] pos) (cal1 fMax1 f) :=
  ve_cal1 (cr_max C.calm) (fun Q v d G H gh hv o => by
    obtain ⟨l, ns, rfl, s, o⟩ := ints_out gh hv o
    split at o
    · rename_i m e
      obtain ⟨h1, h2⟩ := lmax_spec e
      refine ⟨l, ns, rfl, sqL_K s, List.length_pos_of_mem h1, fun m' h3 h4 => ?_⟩
      have : m' = m := Int.le_antisymm (h2 m' h3) (h4 m h1)
      rw [this]; exact o.ri gh
    · exact o.elim) t.gl t.mg (by decide +kernel) ha hs
theorem ve_sorted (t : Bt X "sorted") (ha : VE X T EX B a f) (hs : starEach [a] X.env = [(false, eval a X.env)] := by rfl) : VE X T EX B (.Call (.Name "sorted" p) [a] [] pos) (cal1 fSorted f) :=
  ve_cal1 cr_sortedI (fun Q v d G H gh hv o => by
    obtain ⟨l, ns, rfl, s, o⟩ := ints_out gh hv o
    refine ⟨l, ns, rfl, sqL_K s, fun ns' p h1 h2 hp => ?_⟩
    rw [srt_of h1 h2]
    exact o.newL gh (dq_ints _) p hp) t.gl t.mg (by decide +kernel) ha hs
theorem ve_any (C : Cv X T EX B) (t : Bt X "any") (ha : VE X T EX B a f) (hs : starEach [a] X.env = [(false, eval a X.env)] := by rfl) : VE X T EX B (.Call (.Name "any" p) [a] [] pos) (cal1 fAny f) :=
  ve_cal1 (cr_any C.calm) (fun Q v d G H gh hv o => by
    obtain ⟨l, ns, rfl, s, o⟩ := bls_out gh hv o
    exact ⟨l, ns, rfl, sqL_K s, o.rb gh⟩) t.gl t.mg (by decide +kernel) ha hs
theorem ve_all (C : Cv X T EX B) (t : Bt X "all") (ha : VE X T EX B a f) (hs : starEach [a] X.env = [(false, eval a X.env)] := by rfl) : VE X T EX B (.Call (.Name "all" p) [a] [] pos) (cal1 fAll f) :=
  ve_cal1 (cr_all C.calm) (fun Q v d G H gh hv o => by
    obtain ⟨l, ns, rfl, s, o⟩ := bls_out gh hv o
    exact ⟨l, ns, rfl, sqL_K s, o.rb gh⟩) t.gl t.mg (by decide +kernel) ha hs
theorem ve_abs (t : Bt X "abs") (ha : VE X T EX B a f) (hs : starEach [a] X.env = [(false, eval a X.env)] := by rfl) : VE X T EX B (.Call (.Name "abs" p) [a] [] pos) (cal1 fAbs f) :=
  ve_cal1 call_abs (fun Q v d G H gh hv o => by
    unfold fAbs at o
    split at o
    · rw [hv.intInv]; exact ⟨_, rfl, o.ri gh⟩
    · exact o.elim) t.gl t.mg (by decide +kernel) ha hs
theorem ve_int1 (t : Bt X "int") (ha : VE X T EX B a f) (hs : starEach [a] X.env = [(false, eval a X.env)] := by rfl) : VE X T EX B (.Call (.Name "int" p) [a] [] pos) (cal1 fInt f) :=
  ve_cal1T call_int1 (fun Q v d G H gh hv o => by
    unfold fInt at o
    split at o
    · rw [hv.intInv]; exact .inl ⟨_, rfl, o.ri gh⟩
    · rw [hv.blInv]; exact .inr ⟨_, rfl, o.ri gh⟩
    · exact o.elim) t.gl t.mg (by decide +kernel) ha hs
theorem ve_list (t : Bt X "list") (ha : VE X T EX B a f) (hs : starEach [a] X.env = [(false, eval a X.env)] := by rfl) : VE X T EX B (.Call (.Name "list" p) [a] [] pos) (cal1 fList f) :=
  ve_cal1T call_list_of (fun Q v d G H gh hv o => by
    unfold fList at o
    split at o
    · obtain ⟨l, xs, rfl, s1, q1⟩ := hv.lstH gh
      exact ⟨l, xs, rfl, .inl (sqL_K s1), o.newL gh q1⟩
    · obtain ⟨l, xs, rfl, s1, q1⟩ := hv.tupH gh
      exact ⟨l, xs, rfl, .inr (sqT_K s1), o.newL gh q1⟩
    · exact o.elim) t.gl t.mg (by decide +kernel) ha hs
theorem ve_cal2 {x : Str} {id : String} {r : List V → Hp → VK → Prop} {F : D → D → R} (hc : CallR X (.builtin id) r) (prim : ∀ Q v w d e G H, Same G H → Dq G v d → Dq G w e → Out T EX (F d e) G H Q → r [v, w] H Q) (t : Bt X x) (hv : bootBuiltins x = some (.builtin id)) (ha : VE X T EX B a f) (hb : VE X T EX B b g)
    (hs : starEach [a, b] X.env = (false, eval a X.env) :: starEach [b] X.env := by rfl) (hs2 : starEach [b] X.env = [(false, eval b X.env)] := by rfl) (hn : x ≠ "__name__" := by decide) (hdb : (x == ("__debug__" : Str)) = false := by decide) (hpl : ∀ q : Pos, ((backTo q (starEach [b] X.env)).any fun z => z.1) = false := by intro _; rfl) :
    VE X T EX B (.Call (.Name x p) [a, b] [] pos) (cal2 F f g) := by
  refine pe_weak (pe_callB hc t.gl t.mg hv (va_cons ha (va_cons hb va_nil hs2) hs) hn hdb hs (hpl pos)) fun σ H Q q => args_use (fun vs as G H gh rp o => ?_) q
  split at o
  · cases rp with
    | cons h1 t =>
      cases t with
      | cons h2 t =>
        cases t
        exact prim Q _ _ _ _ G H gh h1 h2 o
  · exact o.elim
theorem ve_max2 (C : Cv X T EX B) (t : Bt X "max") (ha : VE X T EX B a f) (hb : VE X T EX B b g) (hs : starEach [a, b] X.env = (false, eval a X.env) :: starEach [b] X.env := by rfl) (hs2 : starEach [b] X.env = [(false, eval b X.env)] := by rfl) (hpl : ∀ q : Pos, ((backTo q (starEach [b] X.env)).any fun z => z.1) = false := by intro _; rfl) :
    VE X T EX B (.Call (.Name "max" p) [a, b] [] pos) (cal2 fMax2 f g) :=
  ve_cal2 (call_max2 C.calm) (fun Q v w d e G H gh hv hw o => by
    unfold fMax2 at o
    split at o
    · rw [hv.intInv, hw.intInv]; exact ⟨_, _, rfl, o.ri gh⟩
    · exact o.elim) t (by decide +kernel) ha hb hs hs2 (by decide) (by decide) hpl
theorem ve_min2 (C : Cv X T EX B) (t : Bt X "min") (ha : VE X T EX B a f) (hb : VE X T EX B b g) (hs : starEach [a, b] X.env = (false, eval a X.env) :: starEach [b] X.env := by rfl) (hs2 : starEach [b] X.env = [(false, eval b X.env)] := by rfl) (hpl : ∀ q : Pos, ((backTo q (starEach [b] X.env)).any fun z => z.1) = false := by intro _; rfl) :
    VE X T EX B (.Call (.Name "min" p) [a, b] [] pos) (cal2 fMin2 f g) :=
  ve_cal2 (call_min2 C.calm) (fun Q v w d e G H gh hv hw o => by
    unfold fMin2 at o
    split at o
    · rw [hv.intInv, hw.intInv]; exact ⟨_, _, rfl, o.ri gh⟩
    · exact o.elim) t (by decide +kernel) ha hb hs hs2 (by decide) (by decide) hpl
end
end VL
namespace VL
open PySem L2
/-! ### isinstance with a built-in class -/
def tyD : D → String
  | .none => "NoneType"
  | .bool _ => "bool"
  | .int _ => "int"
  | .str _ => "str"
  | .list _ => "list"
  | .tuple _ => "tuple"
  | .dict _ => "dict"
@[simp] def isInt : D → Bool
  | .int _ => true
  | .bool _ => true
  | _ => false
@[simp] def isBool : D → Bool
  | .bool _ => true
  | _ => false
@[simp] def isList : D → Bool
  | .list _ => true
  | _ => false
@[simp] def isTup : D → Bool
  | .tuple _ => true
  | _ => false
/-- a class and its test -/
structure Ty (n : String) (t : D → Bool) : Prop where
  ok : ∀ d, kitB (tyD d) n = some (t d)
theorem ty_int : Ty "int" isInt := ⟨fun d => by cases d <;> (simp only [tyD, isInt]; decide +kernel)⟩
theorem ty_bool : Ty "bool" isBool := ⟨fun d => by cases d <;> (simp only [tyD, isBool]; decide +kernel)⟩
theorem ty_list : Ty "list" isList := ⟨fun d => by cases d <;> (simp only [tyD, isList]; decide +kernel)⟩
theorem ty_tuple : Ty "tuple" isTup := ⟨fun d => by cases d <;> (simp only [tyD, isTup]; decide +kernel)⟩
@[simp] def flatD : D → Bool
  | .none => true
  | .bool _ => true
  | .int _ => true
  | .str _ => true
  | _ => false
section
variable {X : Cx} {T : Ct} {EX : XK} {B : Hp × Hp} {e a b c o : Expr} {es : List Expr} {pos p p2 : Pos} {f g h : FE} {fs : List FE} {G H : Hp} {Q : VK}
theorem Dq.tyX {K : PySem.W.Frag} {v : V} {d : D} (q : Dq H v d) : TyX K H v (.type (tyD d)) := by
  cases q.dp with
  | non => exact .base .non
  | bl b => exact .base (.bl b)
  | int i => exact .base (.int i)
  | str x => exact .base (.str x)
  | lst s _ =>
    rcases s with (s | ⟨o, s⟩) | ⟨o, its, n, hk, _⟩
    · exact .base (.lst s)
    · exact .base (.frz s)
    · cases hk
  | tup s _ =>
    rcases s with (s | ⟨o, s⟩) | ⟨o, its, n, hk, _⟩
    · exact .base (.tup s)
    · exact .fTuple s
    · cases hk
theorem ve_isi {x : Str} {n : String} {t : D → Bool} {p1 : Pos} (ty : Ty n t) (bi : Bt X "isinstance") (bt : Bt X x) (hv : bootBuiltins x = some (.type n)) (ha : VE X T EX B a f)
    (hs : starEach [a, .Name x p1] X.env = (false, eval a X.env) :: starEach [.Name x p1] X.env := by rfl) (hn : x ≠ "__name__" := by decide) (hd : (x == ("__debug__" : Str)) = false := by decide) : VE X T EX B (.Call (.Name "isinstance" p) [a, .Name x p1] [] pos) (op1 (fun d => rb (t d)) f) := by
  refine pe_weak (pe_callB call_isi bi.gl bi.mg PyProof.Rows.boot_isinstance (pa_cons ha (pa_cons (pe_bltn (v := .ty n) bt.gl bt.mg hv rfl hn hd) pa_nil rfl) hs) (by decide) (by decide) hs rfl) fun σ H Q q => ?_
  refine use1 (r := fun x H Q => rIsi X.K [x, .ty n] H Q) (fun x dx G H gh hx o => ?_) q
  exact ⟨x, .ty n, .type (tyD dx), .type n, t dx, rfl, .ty n, (hx.mono gh).tyX, kit_ty (ty.ok dx), o.rb gh⟩

/-! ### in, not in -/
theorem Dq.flat {v : V} {d : D} (q : Dq G v d) : flatV v = flatD d := by
  cases q.dp <;> rfl
theorem flat_eq {v w : V} {d e : D} (q : Dq G v d) (r : Dq G w e) (hd : flatD d = true) (he : flatD e = true) : eqV v w = PyData.eqv d e := by
  cases q.dp with
  | lst _ _ => cases hd
  | tup _ _ => cases hd
  | non => cases r.dp <;> first | (cases he; done) | simp only [eqV, PyData.eqv]
  | bl x => cases r.dp <;> first | (cases he; done) | simp only [eqV, PyData.eqv]
  | int x => cases r.dp <;> first | (cases he; done) | simp only [eqV, PyData.eqv]
  | str x => cases r.dp <;> first | (cases he; done) | simp only [eqV, PyData.eqv]
theorem flat_all : ∀ {ds : List D} {xs : List V}, DqAll G xs ds → ds.all flatD = true → xs.all flatV = true
  | [], _, q, _ => by rw [q.inv0]; rfl
  | d :: ds, _, q, h => by
    obtain ⟨v, vs, rfl, q1, q2⟩ := q.inv
    simp only [List.all_cons, Bool.and_eq_true] at h ⊢
    exact ⟨q1.flat.trans h.1, flat_all q2 h.2⟩
theorem flat_any {w : V} {e : D} (r : Dq G w e) (he : flatD e = true) : ∀ {ds : List D} {xs : List V}, DqAll G xs ds → ds.all flatD = true → inV w xs = ds.any (fun z => PyData.eqv z e)
  | [], _, q, _ => by rw [q.inv0]; rfl
  | d :: ds, _, q, h => by
    obtain ⟨v, vs, rfl, q1, q2⟩ := q.inv
    simp only [List.all_cons, Bool.and_eq_true] at h
    have ih := flat_any r he q2 h.2
    unfold inV at ih ⊢
    rw [List.any_cons, List.any_cons, flat_eq q1 r h.1 he, ih]
/-- x in xs: flat things, or data of any depth in a list -/
@[simp] def fInB (x : D) (ds : List D) (tup : Bool) (k : Bool → R) : R :=
  if flatD x = true ∧ ds.all flatD = true then k (ds.any fun z => PyData.eqv z x)
  else if tup = false ∧ SeqAt.shaped x = true ∧ SeqAt.shaped (.list ds) = true then k (ds.any fun z => PyData.eqv z x) else .stuck
@[simp] def fIn : D → D → R
  | x, .list ds => fInB x ds false fun b => rb b
  | x, .tuple ds => fInB x ds true fun b => rb b
  | _, _ => .stuck
@[simp] def fNin : D → D → R
  | x, .list ds => fInB x ds false fun b => rb (!b)
  | x, .tuple ds => fInB x ds true fun b => rb (!b)
  | _, _ => .stuck
theorem c_in (C : Cv X T EX B) : Cmp X T EX .In fIn (fun x y H Q => rIn X.K false x y H Q ∨ rInD X.K x y H Q) := by
  refine ⟨op_in_seq.or (op_inD (by have := C.un; omega)), fun Q x y dx dy G H gh hx hy o => ?_⟩
  unfold fIn fInB at o
  split at o
  · obtain ⟨l, xs, rfl, s1, q1⟩ := hy.lstH gh
    split at o
    · rename_i z
      exact .inl ⟨l, xs, rfl, .inl (sqL_K s1), hx.flat.trans z.1, flat_all q1 z.2, by rw [flat_any hx z.1 q1 z.2]; exact o.rb gh⟩
    · split at o
      · rename_i z
        exact .inr ⟨dx, _, (hx.mono gh).K, (hy.mono gh).K, z.2.1, z.2.2, o.rb gh⟩
      · exact o.elim
  · obtain ⟨l, xs, rfl, s1, q1⟩ := hy.tupH gh
    split at o
    · rename_i z
      exact .inl ⟨l, xs, rfl, .inr (sqT_K s1), hx.flat.trans z.1, flat_all q1 z.2, by rw [flat_any hx z.1 q1 z.2]; exact o.rb gh⟩
    · split at o
      · rename_i z; exact absurd z.1 (by decide)
      · exact o.elim
  · exact o.elim
theorem c_nin (C : Cv X T EX B) : Cmp X T EX .NotIn fNin (fun x y H Q => rIn X.K true x y H Q ∨ rNotInD X.K x y H Q) := by
  refine ⟨op_notIn_seq.or (op_notInD (by have := C.un; omega)), fun Q x y dx dy G H gh hx hy o => ?_⟩
  unfold fNin fInB at o
  split at o
  · obtain ⟨l, xs, rfl, s1, q1⟩ := hy.lstH gh
    split at o
    · rename_i z
      exact .inl ⟨l, xs, rfl, .inl (sqL_K s1), hx.flat.trans z.1, flat_all q1 z.2, by rw [flat_any hx z.1 q1 z.2]; exact o.rb gh⟩
    · split at o
      · rename_i z
        exact .inr ⟨dx, _, (hx.mono gh).K, (hy.mono gh).K, z.2.1, z.2.2, o.rb gh⟩
      · exact o.elim
  · obtain ⟨l, xs, rfl, s1, q1⟩ := hy.tupH gh
    split at o
    · rename_i z
      exact .inl ⟨l, xs, rfl, .inr (sqT_K s1), hx.flat.trans z.1, flat_all q1 z.2, by rw [flat_any hx z.1 q1 z.2]; exact o.rb gh⟩
    · split at o
      · rename_i z; exact absurd z.1 (by decide)
      · exact o.elim
  · exact o.elim

/-! ### xs.index(y), ints -/
def idxOf : List Int → Int → Option Nat
  | [], _ => none
  | x :: r, y => if x = y then some 0 else (idxOf r y).map (· + 1)
theorem idxOf_spec : ∀ {ns : List Int} {y : Int} {j : Nat}, idxOf ns y = some j → ns[j]? = some y ∧ ∀ m, m < j → ∀ z, ns[m]? = some z → z ≠ y
  | [], _, _, h => by cases h
  | x :: r, y, j, h => by
    unfold idxOf at h
    split at h
    · cases h
      rename_i e
      exact ⟨by rw [e]; rfl, fun m hm => absurd hm (Nat.not_lt_zero _)⟩
    · rename_i e
      obtain ⟨i, hi, rfl⟩ := Option.map_eq_some_iff.mp h
      obtain ⟨h1, h2⟩ := idxOf_spec hi
      refine ⟨by simpa using h1, fun m hm z hz => ?_⟩
      cases m with
      | zero => simp at hz; rw [← hz]; exact e
      | succ m => exact h2 m (by omega) z (by simpa using hz)
@[simp] def fIdx : D → D → R
  | x, .int y => onInts (fun ns => match idxOf ns y with
    | some j => ri (j : Nat)
    | none => .stuck) x
  | _, _ => .stuck
@[simp] def vIdx (f g : FE) : FE := fun env => (f env).d fun x => match x with
  | .list ds => (evA [g] env).b fun as => match as with
    | [.sh y] => fIdx (.list ds) y
    | _ => .stuck
  | _ => .stuck
theorem args_seq {k : List SV → R} {env : VEnv} {σ : L2.St} {P : List V → Hp → Prop} (S : Sim T B G env σ H) (o : Out T EX ((evA fs env).b k) G H Q) (prim : ∀ vs as G1 H1, Step G H G1 H1 → VRpAll T G1 vs as → Sim T B G1 env σ H1 → Out T EX (k as) G1 H1 Q → P vs H1) : rdA T EX B fs σ H P := by
  refine ⟨G, env, S, ?_⟩
  revert o
  cases evA fs env with
  | val as => exact fun o vs G' H' s q => prim vs as G' H' s q (S.step s) (Out.step o s)
  | err c => exact fun o => o
  | stuck => exact fun o => o
theorem ve_index {apos : Pos} (ha : VE X T EX B a f) (hb : VE X T EX B b g) (hbase : attributeBase a "index" X.env (eval a X.env) = eval a X.env := by rfl)
    (hline : (apos.endLine == pos.line) = true := by rfl) (hs : starEach [b] X.env = [(false, eval b X.env)] := by rfl) (hplain : (backTo pos (starEach [] X.env)).any (·.1) = false := by rfl)
    (hfew : ((backTo pos (starEach [b] X.env)).all (fun x => !x.1) && (backToKw pos (keywordEach [] X.env)).all (fun x => x.1.isSome)
      && decide ([b].length + ([] : List Keyword).length + (if ([] : List Keyword).isEmpty then 0 else 1) < 30)) = true := by rfl) : VE X T EX B (.Call (.Attribute a "index" apos) [b] [] pos) (vIdx f g) := by
  refine pe_weak (pe_bm PySem.F.plainAttrs_list PySem.F.slot_list_index PySem.F.type_list_index mt_index ha (va_cons hb va_nil hs) hbase hfew hline hs hplain) fun σ H Q q => ?_
  obtain ⟨G, env, S, o⟩ := q
  refine rdV_mono (seqD S o) fun x H1 ⟨dx, G1, s1, hx, S1, o1⟩ => ?_
  split at o1
  · obtain ⟨l, xs, rfl, sq, q1⟩ := hx.lstH S1.gh
    refine ⟨.inl ⟨rfl, xs, sqL_K sq⟩, args_seq S1 o1 fun vs as G2 H2 s2 rp S2 o2 => ?_⟩
    split at o2
    · cases rp with
      | cons h1 t =>
        cases t
        rename_i y
        unfold fIdx at o2
        split at o2
        · rename_i y
          obtain ⟨l2, ns, e2, sq2, o2⟩ := ints_out S2.gh (hx.mono s2.gg) o2
          cases e2
          split at o2
          · rename_i j ej
            obtain ⟨k1, k2⟩ := idxOf_spec ej
            have hy := Dq.intInv h1
            refine ⟨l, ns.map V.int, .int y, j, .int y, rfl, by rw [hy], sqL_K sq2, rfl, by simp [flatV], by rw [List.getElem?_map, k1]; rfl, by simp [eqV], fun m z' hm hz => ?_, o2.ri S2.gh⟩
            rw [List.getElem?_map] at hz
            obtain ⟨w, hw, rfl⟩ := Option.map_eq_some_iff.mp hz
            have := k2 m hm w hw
            simp [eqV, this]
          · exact o2.elim
        · exact o2.elim
    · exact o2.elim
  · exact o1.elim

/-! ### a def of the program -/
/-- a def's promise: its arguments stand in G; what it makes of them -/
def spV (T : Ct) (n : Nat) (m : List SV → R) : Sp := fun vs H Q E => ∃ G as, Same G H ∧ NoMem G ∧ (∀ a, T.me = some a → ∃ o, H a = some o ∧ Mem o) ∧ VRpAll T G vs as ∧ as.length = n ∧ Out T E (m as) G H Q
theorem vrp_len {T : Ct} {G : Hp} : ∀ {vs : List V} {as : List SV}, VRpAll T G vs as → vs.length = as.length
  | _, _, .nil => rfl
  | _, _, .cons _ t => by rw [List.length_cons, List.length_cons, vrp_len t]
@[simp] def calF (n : Nat) (m : List SV → R) (fs : List FE) : FE := fun env => (evA fs env).b fun as => if as.length = n then m as else .stuck
theorem ve_call {x : Str} {n k : Nat} {m : List SV → R} {fa : Addr} {fd : FuncData} {ps : List Str} (F : FnGd X.prog X.w X.K X.mg X.base (L2.CX X.prog X.w) k fa fd ps (spV T n m)) (hr : Room k X.A) (hg : Gl X x) (hm : X.mg x = some (.ref fa)) (hk : PySem.W.keepIn X.K (.ref fa) = true) (hb : Binds X.K fd ps [])
    (C : Cv X T EX B) (ha : VA X T EX B (e :: es) fs) (hd : (x == ("__debug__" : Str)) = false := by decide) (hs : starEach (e :: es) X.env = (false, eval e X.env) :: starEach es X.env := by rfl) (hpl : ((backTo pos (starEach es X.env)).any fun z => z.1) = false := by rfl) :
    VE X T EX B (.Call (.Name x p) (e :: es) [] pos) (calF n m fs) := by
  refine pe_weak (pe_callG (E := fun _ => EX) F C.gd hr hg hm hk hb (fun σ pn H s e s' => C.pass pn σ H s e s') ha hd hs hpl) fun σ H Q q => ?_
  obtain ⟨G, env, S, o⟩ := q
  refine args_seq S o fun vs as G1 H1 s1 rp S1 o1 => ?_
  split at o1
  · exact ⟨G1, as, S1.gh, S1.st.nm S1.nb, S1.me, rp, by assumption, o1⟩
  · exact o1.elim
end
end VL
namespace VL
open PySem L2
/-! ### what is walked -/
@[simp] def itD (F : D → RI) (f : FE) : FI := fun env => match f env with
  | .val (.sh d) => F d
  | .val (.ow ds) => F (.list ds)
  | .val (.ob _ _) => .stuck
  | .val (.rg r) => (match r.toD with
    | some d => F d
    | none => .stuck)
  | .err c => .err c
  | .stuck => .stuck
@[simp] def itA (F : List SV → RI) (fs : List FE) : FI := fun env => match evA fs env with
  | .val as => F as
  | .err c => .err c
  | .stuck => .stuck
@[simp] def iL : D → RI
  | .list ds => .val ds
  | _ => .stuck
@[simp] def iT : D → RI
  | .tuple ds => .val ds
  | _ => .stuck
def rngD (lo c : Int) (n : Nat) : List D := (List.range n).map fun (i : Nat) => .int (lo + (i : Int) * c)
@[simp] def iR1 : List SV → RI
  | [.sh (.int j)] => if -1000000 ≤ j ∧ j ≤ 1000000 then .val (rngD 0 1 j.toNat) else .stuck
  | _ => .stuck
@[simp] def iR2 : List SV → RI
  | [.sh (.int i), .sh (.int j)] => if -1000000 ≤ i ∧ i ≤ 1000000 ∧ -1000000 ≤ j ∧ j ≤ 1000000 then .val (rngD i 1 (j - i).toNat) else .stuck
  | _ => .stuck
def iR3 : List SV → RI
  | [.sh (.int i), .sh (.int j), .sh (.int c)] => if 0 < c ∧ c ≤ 1000 ∧ Builtin.Range.small i j c = true then .val (rngD i c (if i < j then (j - i - 1) / c + 1 else 0).toNat) else .stuck
  | _ => .stuck
def enumD : Nat → List D → List D
  | _, [] => []
  | n, d :: r => .tuple [.int (n : Nat), d] :: enumD (n + 1) r
@[simp] def iE : List SV → RI
  | [.sh (.list ds)] => .val (enumD 0 ds)
  | _ => .stuck
def zipD (xs ys : List D) : List D := List.zipWith (fun a b => .tuple [a, b]) xs ys
@[simp] def iZ : List SV → RI
  | [.sh (.list ds), .sh (.list es)] => .val (zipD ds es)
  | _ => .stuck
theorem enumD_length : ∀ (ds : List D) (n : Nat), (enumD n ds).length = ds.length
  | [], _ => rfl
  | _ :: r, n => by simp only [enumD, List.length_cons, enumD_length r]
theorem enumD_get : ∀ {ds : List D} {n i : Nat} {d : D}, ds[i]? = some d → (enumD n ds)[i]? = some (.tuple [.int ((n + i : Nat) : Int), d])
  | [], _, _, _, h => by simp at h
  | x :: r, n, 0, d, h => by simp at h; subst h; rfl
  | x :: r, n, i + 1, d, h => by
    have := enumD_get (ds := r) (n := n + 1) (i := i) (d := d) (by simpa using h)
    simp only [enumD, List.getElem?_cons_succ, this]
    rw [show n + 1 + i = n + (i + 1) by omega]
section
variable {X : Cx} {T : Ct} {EX : XK} {B : Hp × Hp} {e a b c o tg : Expr} {es : List Expr} {pos p p2 : Pos} {f g h : FE} {fs : List FE} {G H G1 H1 : Hp} {Q : VK}
theorem OutI.step {r : RI} {R : It → Hp → Prop} (q : OutI T EX r G H R) (s : Step G H G1 H1) : OutI T EX r G1 H1 R := by
  cases r with
  | val ds => exact fun J G' H' s' w => q J G' H' (s.trans s') w
  | err c => exact fun H' z => q H' (s.hh.trans z)
  | stuck => exact q
theorem seqItD {F : D → RI} {env : VEnv} {σ : L2.St} {R : It → Hp → Prop} (S' : Sim T B G env σ H) (q : OutI T EX (itD F f env) G H R) : rdV T EX B f σ H (fun v H1 => ∃ d G1, Step G H G1 H1 ∧ Dq G1 v d ∧ Sim T B G1 env σ H1 ∧ OutI T EX (F d) G1 H1 R) := by
  refine ⟨G, env, S', ?_⟩
  unfold itD at q
  revert q
  cases f env with
  | val v =>
    cases v with
    | sh d => exact fun h => Out.fz fun x G' H' s q => ⟨d, G', s, q, S'.step s, OutI.step h s⟩
    | ow ds => exact fun h => Out.fz fun x G' H' s q => ⟨.list ds, G', s, q, S'.step s, OutI.step h s⟩
    | ob c fs => exact fun h => h.elim
    | rg r =>
      intro h v S G' H' s nd nw q
      dsimp only at h
      split at h
      · rename_i d ed
        have s2 := s.frzS nw (RRp.at r S v q)
        exact ⟨d, addS G' H' S, s2, RRp.frz (addS_same fun a m => (nw a m).1) r S v d q (fun a m => addS_in m) ed, S'.step s2, OutI.step h s2⟩
      · exact h.elim
  | err c => exact fun h => h
  | stuck => exact fun h => h
theorem seqItA {F : List SV → RI} {env : VEnv} {σ : L2.St} {R : It → Hp → Prop} (S : Sim T B G env σ H) (q : OutI T EX (itA F fs env) G H R) : rdA T EX B fs σ H (fun vs H1 => ∃ as G1, Step G H G1 H1 ∧ VRpAll T G1 vs as ∧ Sim T B G1 env σ H1 ∧ OutI T EX (F as) G1 H1 R) := by
  refine ⟨G, env, S, ?_⟩
  unfold itA at q
  revert q
  cases evA fs env with
  | val as => exact fun h vs G' H' s q => ⟨as, G', s, q, S.step s, OutI.step h s⟩
  | err c => exact fun h => h
  | stuck => exact fun h => h
theorem rdA_mono {σ : L2.St} {Q Q' : List V → Hp → Prop} (h : rdA T EX B fs σ H Q) (q : ∀ v H', Q v H' → Q' v H') : rdA T EX B fs σ H Q' := by
  obtain ⟨G, env, S, o⟩ := h
  refine ⟨G, env, S, ?_⟩
  revert o
  cases evA fs env with
  | val as => exact fun o vs G' H' s z => q _ _ (o vs G' H' s z)
  | err c => exact fun o => o
  | stuck => exact fun o => o
theorem walksL {K : PySem.W.Frag} {l : Addr} {xs : List V} {ds : List D} (s : SqL [] G l xs) (q : DqAll G xs ds) : WalksD (Itl K l) G ds := by
  unfold WalksD
  rw [← q.length]
  refine walk_list.mono (fun H e => sqL_K (e.seq s)) fun i H x H' hi gh y Gc h1 h2 => ?_
  obtain ⟨rfl, e⟩ := y
  obtain ⟨d, hd⟩ : ∃ d, ds[i]? = some d := ⟨ds[i]'(by rw [← q.length]; exact hi), List.getElem?_eq_getElem _⟩
  obtain ⟨v, hv, dv⟩ := q.get hd
  rw [e] at hv; cases hv
  exact ⟨d, Gc, hd, Step.refl h2, dv.mono h1⟩
theorem walksT {K : PySem.W.Frag} {l : Addr} {xs : List V} {ds : List D} (s : SqT [] G l xs) (q : DqAll G xs ds) : WalksD (Itt K l) G ds := by
  unfold WalksD
  rw [← q.length]
  refine walk_tup.mono (fun H e => sqT_K (same_seqT e s)) fun i H x H' hi gh y Gc h1 h2 => ?_
  obtain ⟨rfl, e⟩ := y
  obtain ⟨d, hd⟩ : ∃ d, ds[i]? = some d := ⟨ds[i]'(by rw [← q.length]; exact hi), List.getElem?_eq_getElem _⟩
  obtain ⟨v, hv, dv⟩ := q.get hd
  rw [e] at hv; cases hv
  exact ⟨d, Gc, hd, Step.refl h2, dv.mono h1⟩
theorem rngD_length (lo c : Int) (n : Nat) : (rngD lo c n).length = n := by simp [rngD]
theorem rngD_get {lo c : Int} {n i : Nat} (h : i < n) : (rngD lo c n)[i]? = some (.int (lo + (i : Int) * c)) := by simp [rngD, h]
theorem walksR {lo : Int} {n : Nat} : WalksD (Itr lo n) G (rngD lo 1 n) := by
  unfold WalksD
  rw [rngD_length]
  refine walk_range.mono (fun _ _ => trivial) fun i H x H' hi gh y Gc h1 h2 => ?_
  obtain ⟨rfl, e⟩ := y
  exact ⟨_, Gc, rngD_get hi, Step.refl h2, by rw [e, Int.mul_one]; exact .int⟩
theorem walksC {lo c : Int} {n : Nat} : WalksD (Itc lo c n) G (rngD lo c n) := by
  unfold WalksD
  rw [rngD_length]
  refine walk_rangeC.mono (fun _ _ => trivial) fun i H x H' hi gh y Gc h1 h2 => ?_
  obtain ⟨rfl, e⟩ := y
  exact ⟨_, Gc, rngD_get hi, Step.refl h2, by rw [e]; exact .int⟩
theorem walksE {K : PySem.W.Frag} {l : Addr} {xs : List V} {ds : List D} (s : SqL [] G l xs) (q : DqAll G xs ds) : WalksD (Ite K l) G (enumD 0 ds) := by
  unfold WalksD
  rw [enumD_length, ← q.length]
  refine walk_enum.mono (fun H e => sqL_K (e.seq s)) fun i H x H' hi gh y Gc h1 h2 => ?_
  obtain ⟨t, u, w, rfl, hn, rfl, e1, e2⟩ := y
  cases e1
  have e2 : xs[i]? = some w := e2
  obtain ⟨d, hd⟩ : ∃ d, ds[i]? = some d := ⟨ds[i]'(by rw [← q.length]; exact hi), List.getElem?_eq_getElem _⟩
  obtain ⟨v, hv, dv⟩ := q.get hd
  rw [e2] at hv; cases hv
  refine ⟨_, upd Gc t (.tup [.int (i : Nat), w]), enumD_get hd, Step.new h2 hn _, Dq.tup (SqT.of upd_same) ?_⟩
  have sg := same_upd (same_none h2 hn) (.tup [.int ((i : Nat) : Int), w])
  rw [Nat.zero_add]
  exact .cons .int (.cons ((dv.mono h1).mono sg) .nil)
theorem zipD_get {xs ys : List D} {i : Nat} {x y : D} (h1 : xs[i]? = some x) (h2 : ys[i]? = some y) : (zipD xs ys)[i]? = some (.tuple [x, y]) := by
  unfold zipD
  rw [List.getElem?_zipWith, h1, h2]
theorem walksZ {K : PySem.W.Frag} {l l2 : Addr} {xs ys : List V} {ds es : List D} (s : SqL [] G l xs) (q : DqAll G xs ds) (s2 : SqL [] G l2 ys) (q2 : DqAll G ys es) : WalksD (Itz K l l2) G (zipD ds es) := by
  unfold WalksD
  have hn : (zipD ds es).length = min xs.length ys.length := by rw [q.length, q2.length]; simp [zipD]
  rw [hn]
  refine (walk_zip rfl).mono (fun H e => ⟨sqL_K (e.seq s), sqL_K (e.seq s2)⟩) fun i H x H' hi gh y Gc h1 h2 => ?_
  obtain ⟨t, u, w, rfl, hn, rfl, e1, e2⟩ := y
  have e1 : xs[i]? = some u := e1
  have e2 : ys[i]? = some w := e2
  have i1 : i < ds.length := by rw [← q.length]; omega
  have i2 : i < es.length := by rw [← q2.length]; omega
  obtain ⟨d, hd⟩ : ∃ d, ds[i]? = some d := ⟨ds[i], List.getElem?_eq_getElem _⟩
  obtain ⟨d2, hd2⟩ : ∃ d, es[i]? = some d := ⟨es[i], List.getElem?_eq_getElem _⟩
  obtain ⟨v, hv, dv⟩ := q.get hd
  obtain ⟨v2, hv2, dv2⟩ := q2.get hd2
  rw [e1] at hv; cases hv
  rw [e2] at hv2; cases hv2
  have sg := same_upd (same_none h2 hn) (.tup [u, w])
  exact ⟨_, upd Gc t (.tup [u, w]), zipD_get hd hd2, Step.new h2 hn _, Dq.tup (SqT.of upd_same) (.cons ((dv.mono h1).mono sg) (.cons ((dv2.mono h1).mono sg) .nil))⟩
theorem vi_list (ha : VE X T EX B a f) : VI X T EX B tg a (itD iL f) := pi_weak (pi_list ha) fun σ H R q => by
  obtain ⟨G, env, S, o⟩ := q
  refine rdV_mono (seqItD S o) fun v H1 ⟨d, G1, s, dq, S1, o1⟩ => ?_
  unfold iL at o1
  split at o1
  · obtain ⟨l, xs, rfl, sq, q1⟩ := dq.lstInv
    exact ⟨l, rfl, ⟨xs, sqL_K (S1.gh.seq sq)⟩, o1 _ G1 H1 (Step.refl S1.gh) (walksL sq q1)⟩
  · exact o1.elim
theorem vi_tup (ha : VE X T EX B a f) : VI X T EX B tg a (itD iT f) := pi_weak (pi_tup ha) fun σ H R q => by
  obtain ⟨G, env, S, o⟩ := q
  refine rdV_mono (seqItD S o) fun v H1 ⟨d, G1, s, dq, S1, o1⟩ => ?_
  unfold iT at o1
  split at o1
  · obtain ⟨l, xs, rfl, sq, q1⟩ := dq.tupInv
    exact ⟨l, rfl, ⟨xs, sqT_K (same_seqT S1.gh sq)⟩, o1 _ G1 H1 (Step.refl S1.gh) (walksT sq q1)⟩
  · exact o1.elim
theorem vi_range1 (t : Bt X "range") (ha : VA X T EX B [a] fs) (hs : starEach [a] X.env = [(false, eval a X.env)] := by rfl) : VI X T EX B tg (.Call (.Name "range" p) [a] [] pos) (itA iR1 fs) := pi_weak (pi_range1 t.gl t.mg ha hs) fun σ H R q => by
  obtain ⟨G, env, S, o⟩ := q
  refine rdA_mono (seqItA S o) fun vs H1 ⟨as, G1, s, rp, S1, o1⟩ => ?_
  unfold iR1 at o1
  split at o1
  · rename_i j
    split at o1
    · rename_i hj
      cases rp with
      | cons h1 t =>
        cases t
        exact ⟨j, by rw [Dq.intInv h1], by omega, by omega, o1 _ G1 H1 (Step.refl S1.gh) walksR⟩
    · exact o1.elim
  · exact o1.elim
theorem vi_range2 (t : Bt X "range") (ha : VA X T EX B [a, b] fs) (hs : starEach [a, b] X.env = [(false, eval a X.env), (false, eval b X.env)] := by rfl) (hs2 : starEach [b] X.env = [(false, eval b X.env)] := by rfl) : VI X T EX B tg (.Call (.Name "range" p) [a, b] [] pos) (itA iR2 fs) := pi_weak (pi_range2 t.gl t.mg ha hs hs2) fun σ H R q => by
  obtain ⟨G, env, S, o⟩ := q
  refine rdA_mono (seqItA S o) fun vs H1 ⟨as, G1, s, rp, S1, o1⟩ => ?_
  unfold iR2 at o1
  split at o1
  · rename_i i j
    split at o1
    · rename_i hj
      cases rp with
      | cons h1 t =>
        cases t with
        | cons h2 t =>
          cases t
          exact ⟨i, j, by rw [Dq.intInv h1, Dq.intInv h2], ⟨by omega, by omega, by omega, by omega⟩, o1 _ G1 H1 (Step.refl S1.gh) walksR⟩
    · exact o1.elim
  · exact o1.elim
theorem vi_range3 (t : Bt X "range") (ha : VA X T EX B [a, b, c] fs) (hs : starEach [a, b, c] X.env = (false, eval a X.env) :: starEach [b, c] X.env := by rfl) (hs2 : ((backTo pos (starEach [b, c] X.env)).any fun z => z.1) = false := by rfl) : VI X T EX B tg (.Call (.Name "range" p) [a, b, c] [] pos) (itA iR3 fs) := pi_weak (pi_range3 t.gl t.mg ha hs hs2) fun σ H R q => by
  obtain ⟨G, env, S, o⟩ := q
  refine rdA_mono (seqItA S o) fun vs H1 ⟨as, G1, s, rp, S1, o1⟩ => ?_
  unfold iR3 at o1
  split at o1
  · rename_i i j c
    split at o1
    · rename_i hj
      cases rp with
      | cons h1 t =>
        cases t with
        | cons h2 t =>
          cases t with
          | cons h3 t =>
            cases t
            refine ⟨i, j, c, _, by rw [Dq.intInv h1, Dq.intInv h2, Dq.intInv h3], ⟨by omega, by omega, hj.2.2, ?_⟩, o1 _ G1 H1 (Step.refl S1.gh) walksC⟩
            unfold Builtin.Range.rangeSize
            rw [if_pos hj.1]
            by_cases z : i < j
            · rw [if_pos z]
              have : 0 ≤ (j - i - 1) / c := Int.ediv_nonneg (by omega) (by omega)
              omega
            · rw [if_neg z]; rfl
    · exact o1.elim
  · exact o1.elim
theorem vi_enum {elts : List Expr} {kk : Nat} {tpos : Pos} (t : Bt X "enumerate") (ha : VA X T EX B [a] fs) (hs : starEach [a] X.env = [(false, eval a X.env)] := by rfl) : VI X T EX B (.Tuple elts kk tpos) (.Call (.Name "enumerate" p) [a] [] pos) (itA iE fs) := pi_weak (pi_enum t.gl t.mg ha hs) fun σ H R q => by
  obtain ⟨G, env, S, o⟩ := q
  refine rdA_mono (seqItA S o) fun vs H1 ⟨as, G1, s, rp, S1, o1⟩ => ?_
  unfold iE at o1
  split at o1
  · cases rp with
    | cons h1 t =>
      cases t
      obtain ⟨l, xs, rfl, sq, q1⟩ := Dq.lstInv h1
      exact ⟨l, xs, rfl, sqL_K (S1.gh.seq sq), o1 _ G1 H1 (Step.refl S1.gh) (walksE sq q1)⟩
  · exact o1.elim
theorem vi_zip {elts : List Expr} {kk : Nat} {tpos : Pos} (t : Bt X "zip") (ha : VA X T EX B [a, b] fs) (hs : starEach [a, b] X.env = (false, eval a X.env) :: starEach [b] X.env := by rfl) (hs2 : ((backTo pos (starEach [b] X.env)).any fun z => z.1) = false := by rfl) : VI X T EX B (.Tuple elts kk tpos) (.Call (.Name "zip" p) [a, b] [] pos) (itA iZ fs) := pi_weak (pi_zip t.gl t.mg ha hs hs2) fun σ H R q => by
  obtain ⟨G, env, S, o⟩ := q
  refine rdA_mono (seqItA S o) fun vs H1 ⟨as, G1, s, rp, S1, o1⟩ => ?_
  unfold iZ at o1
  split at o1
  · cases rp with
    | cons h1 t =>
      cases t with
      | cons h2 t =>
        cases t
        obtain ⟨l, xs, rfl, sq, q1⟩ := Dq.lstInv h1
        obtain ⟨l2, ys, rfl, sq2, q2⟩ := Dq.lstInv h2
        exact ⟨l, l2, xs, ys, rfl, sqL_K (S1.gh.seq sq), sqL_K (S1.gh.seq sq2), o1 _ G1 H1 (Step.refl S1.gh) (walksZ sq q1 sq2 q2)⟩
  · exact o1.elim

/-! ### targets -/
def SetIn (is : List Nat) (σ σ' : L2.St) : Prop := σ'.length = σ.length ∧ ∀ j, j ∉ is → σ'[j]? = σ[j]?
theorem SetIn.one {σ : L2.St} {i : Nat} {v : Option V} : SetIn [i] σ (σ.set i v) := ⟨by rw [List.length_set], fun j h => List.getElem?_set_ne (fun e => h (by rw [e]; exact List.mem_cons_self))⟩
theorem SetIn.trans {is js : List Nat} {σ σ1 σ2 : L2.St} (a : SetIn is σ σ1) (b : SetIn js σ1 σ2) : SetIn (is ++ js) σ σ2 := ⟨b.1.trans a.1, fun j h => (b.2 j fun z => h (List.mem_append_right _ z)).trans (a.2 j fun z => h (List.mem_append_left _ z))⟩
abbrev Tg := D → VEnv → Option VEnv
@[simp] def tgN (i : Nat) : Tg := fun d env => some (env.set i (some (.sh d)))
@[simp] def tg2 (i j : Nat) : Tg := fun d env => match d with
  | .tuple [x, y] => some ((env.set i (some (.sh x))).set j (some (.sh y)))
  | _ => none
@[simp] def tg3 (i j k : Nat) : Tg := fun d env => match d with
  | .tuple [x, y, z] => some (((env.set i (some (.sh x))).set j (some (.sh y))).set k (some (.sh z)))
  | _ => none
/-- what a target does with data -/
def TgRun (T : Ct) (B : Hp × Hp) (g : TG) (is : List Nat) (t : Tg) : Prop := ∀ {G : Hp} {env : VEnv} {σ : L2.St} {H : Hp} {v : V} {d : D} {env' : VEnv} {Q : L2.St → Hp → Prop}, Sim T B G env σ H → Dq G v d → t d env = some env' → (∀ σ', Sim T B G env' σ' H → SetIn is σ σ' → Q σ' H) → g v σ H Q
theorem tr_name {i : Nat} : TgRun T B (gName i) [i] (tgN i) := fun S dq e q => by cases e; exact q _ (S.setSh dq) .one
theorem tr_2 {K : PySem.W.Frag} {i j : Nat} : TgRun T B (gTup K 2 (gCons (gName i) (gCons (gName j) gNil))) [i, j] (tg2 i j) := by
  intro G env σ H v d env' Q S dq e q
  unfold tg2 at e
  split at e
  · cases e
    obtain ⟨l, xs, rfl, sq, q1⟩ := dq.tupInv
    obtain ⟨v1, vs1, rfl, d1, q2⟩ := q1.inv
    obtain ⟨v2, vs2, rfl, d2, q3⟩ := q2.inv
    cases q3.inv0
    exact ⟨l, _, rfl, sqT_K (same_seqT S.gh sq), rfl, v1, _, rfl, v2, _, rfl, rfl, q _ ((S.setSh d1).setSh d2) (SetIn.trans (js := [j]) .one .one)⟩
  · cases e
theorem tr_3 {K : PySem.W.Frag} {i j l : Nat} : TgRun T B (gTup K 3 (gCons (gName i) (gCons (gName j) (gCons (gName l) gNil)))) [i, j, l] (tg3 i j l) := by
  intro G env σ H v d env' Q S dq e q
  unfold tg3 at e
  split at e
  · cases e
    obtain ⟨l, xs, rfl, sq, q1⟩ := dq.tupInv
    obtain ⟨v1, vs1, rfl, d1, q2⟩ := q1.inv
    obtain ⟨v2, vs2, rfl, d2, q3⟩ := q2.inv
    obtain ⟨v3, vs3, rfl, d3, q4⟩ := q3.inv
    cases q4.inv0
    exact ⟨l, _, rfl, sqT_K (same_seqT S.gh sq), rfl, v1, _, rfl, v2, _, rfl, v3, _, rfl, rfl, q _ (((S.setSh d1).setSh d2).setSh d3) (SetIn.trans (is := [i, j]) (SetIn.trans (js := [j]) .one .one) .one)⟩
  · cases e

/-! ### list comprehensions -/
@[simp] def wipeE (env : VEnv) : List Nat → VEnv
  | [] => env
  | v :: vs => (wipeE env vs).set v none
theorem Sim.wipe {env : VEnv} {σ : L2.St} (S : Sim T B G env σ H) : ∀ vs : List Nat, Sim T B G (wipeE env vs) (L2.wipe σ vs) H
  | [] => S
  | v :: vs => (S.wipe vs).setNone
theorem wipe_in {σ : L2.St} {i : Nat} : ∀ {vs : List Nat}, i ∈ vs → i < σ.length → (L2.wipe σ vs)[i]? = some none
  | v :: vs, h, hl => by
    unfold L2.wipe
    by_cases e : v = i
    · subst e; exact List.getElem?_set_self (by rw [wipe_length]; exact hl)
    · rw [List.getElem?_set_ne e]
      exact wipe_in ((List.mem_cons.mp h).resolve_left (Ne.symm e)) hl
theorem wipe_eq {is vs : List Nat} {σ σ' : L2.St} (h : SetIn is (L2.wipe σ vs) σ') (hs : ∀ i ∈ is, i ∈ vs) : L2.wipe σ' vs = L2.wipe σ vs := by
  have hl : σ'.length = σ.length := by rw [h.1, wipe_length]
  refine List.ext_getElem? fun j => ?_
  by_cases hj : j ∈ vs
  · by_cases hb : j < σ.length
    · rw [wipe_in hj (by rw [hl]; exact hb), wipe_in hj hb]
    · rw [List.getElem?_eq_none (by rw [wipe_length]; omega), List.getElem?_eq_none (by rw [wipe_length]; omega)]
  · rw [wipe_out hj, h.2 j (fun z => hj (hs j z)), wipe_out hj]
@[simp] def R.data (r : R) : Option D := match r with
  | .val (.sh d) => some d
  | .val (.ow ds) => some (.list ds)
  | .val (.rg r) => r.toD
  | _ => none
def lcGo (t : Tg) (c e : FE) (env : VEnv) : List D → Option (List D)
  | [] => some []
  | d :: r => match t d env with
    | none => none
    | some env' => match c env' with
      | .val (.sh (.bool true)) => match (e env').data with
        | some y => (lcGo t c e env r).map (y :: ·)
        | none => none
      | .val (.sh (.bool false)) => lcGo t c e env r
      | _ => none
@[simp] def vLc (vs : List Nat) (t : Tg) (it : FI) (c e : FE) : FE := fun env => match it env with
  | .val ds => if ds.length ≤ 1000000 then (match lcGo t c e (wipeE env vs) ds with
    | some ys => .val (.ow ys)
    | none => .stuck) else .stuck
  | .err c => .err c
  | .stuck => .stuck
theorem lcGo_cons {t : Tg} {c e : FE} {env : VEnv} {d : D} {r zs : List D} (h : lcGo t c e env (d :: r) = some zs) : ∃ env', t d env = some env' ∧ ((c env' = rb true ∧ ∃ y zs', (e env').data = some y ∧ lcGo t c e env r = some zs' ∧ zs = y :: zs') ∨ (c env' = rb false ∧ lcGo t c e env r = some zs)) := by
  unfold lcGo at h
  split at h
  · cases h
  · rename_i env' e1
    refine ⟨env', e1, ?_⟩
    split at h
    · rename_i e2
      split at h
      · rename_i y e3
        obtain ⟨zs', e4, rfl⟩ := Option.map_eq_some_iff.mp h
        exact .inl ⟨e2, y, zs', e3, e4, rfl⟩
      · cases h
    · rename_i e2
      exact .inr ⟨e2, h⟩
    · cases h
theorem lc_use {vs is : List Nat} {t : Tg} {it : FI} {c e : FE} {gt : TG} {σ : L2.St} (hg : TgRun T B gt is t)
    (hsub : ∀ i ∈ is, i ∈ vs) (q : rdV T EX B (vLc vs t it c e) σ H Q) : tLc (rdI T EX B it) gt (rdT T E0 B c) (rdV T E0 B e) vs σ H Q := by
  obtain ⟨G, env, S, o⟩ := q
  refine ⟨G, env, S, ?_⟩
  unfold vLc at o
  revert o
  cases it env with
  | err c => exact fun o => o
  | stuck => exact fun o => o
  | val ds =>
    intro o J G1 H1 s1 wk D hD
    dsimp only at o
    split at o
    rotate_left
    · exact o.elim
    rename_i hlen
    split at o
    rotate_left
    · exact o.elim
    rename_i total et
    have S1 := S.step s1
    have W1 := S1.wipe vs
    refine lc_it wk (fun i Hc => ∃ Gc acc ys zs, Step G1 H1 Gc Hc ∧ Hc D = some (.lst acc) ∧ Gc D = none ∧ DqAll Gc acc ys ∧ ys.length ≤ i ∧ lcGo t c e (wipeE env vs) (ds.drop i) = some zs ∧ ys ++ zs = total) ?_ ?_ ?_ ?_
    · exact ⟨G1, [], [], total, Step.apart S1.gh hD _, upd_same, same_none S1.gh hD, .nil, Nat.le_refl _, et, rfl⟩
    · rintro i Hc hi ⟨Gc, acc, ys, zs, st, _⟩
      exact st.gg.trans st.gh
    · rintro i x Hc H' hi ⟨Gc, acc, ys, zs, st, hDc, gD, dq, hyl, el, ez⟩ y
      obtain ⟨d, Gd, hd, sd, dx⟩ := y Gc st.gg st.gh
      have ed : ds.drop i = d :: ds.drop (i + 1) := by
        have hi' : i < ds.length := hi
        rw [List.drop_eq_getElem_cons hi']
        rw [List.getElem?_eq_getElem hi'] at hd
        cases hd; rfl
      rw [ed] at el
      obtain ⟨env', e1, hc⟩ := lcGo_cons el
      have sS : Sim T B Gd (wipeE env vs) (L2.wipe σ vs) H' := (W1.step st).step sd
      obtain ⟨gD', hD'⟩ := sd.own gD hDc
      refine hg sS dx e1 fun σ' S' hset => ⟨wipe_eq hset hsub, Gd, env', S', ?_⟩
      rcases hc with ⟨hc, y, zs', e3, e4, rfl⟩ | ⟨hc, e4⟩
      · rw [hc]
        intro G3 H3 s3
        refine iteT ⟨G3, env', S'.step s3, ?_⟩
        obtain ⟨gD3, hD3⟩ := s3.own gD' hD'
        have fin : ∀ v G4 H4, Step G3 H3 G4 H4 → Dq G4 v y → ∃ acc, H4 D = some (.lst acc) ∧ acc.length < sizeLine ∧ ∃ Gc acc' ys zs, Step G1 H1 Gc (upd H4 D (.lst (acc ++ [v]))) ∧ upd H4 D (.lst (acc ++ [v])) D = some (.lst acc') ∧ Gc D = none ∧ DqAll Gc acc' ys ∧ ys.length ≤ i + 1 ∧ lcGo t c e (wipeE env vs) (ds.drop (i + 1)) = some zs ∧ ys ++ zs = total := by
          intro v G4 H4 s4 dv
          obtain ⟨gD4, hD4⟩ := s4.own gD3 hD3
          have st4 := ((st.trans sd).trans s3).trans s4
          have dq4 := ((dq.mono sd.gg).mono s3.gg).mono s4.gg
          refine ⟨acc, hD4, by rw [dq.length]; exact gl_line (by omega), G4, acc ++ [v], ys ++ [y], zs', ⟨fun b u z => ?_, st4.gg, fun b u z => ?_, st4.nw, st4.nm⟩, upd_same, gD4, dq4.append (.cons dv .nil), ?_, e4, ?_⟩
          · rw [upd_ne (ne_of_none z hD)]; exact st4.hh b u z
          · rw [upd_ne (ne_of_none z gD4)]; exact st4.gh b u z
          · rw [List.length_append, List.length_singleton]; omega
          · rw [← ez, List.append_assoc]; rfl
        cases ee : e env' with
        | val w =>
          refine Out.fz fun v G4 H4 s4 dv => fin v G4 H4 s4 ?_
          rw [ee] at e3
          cases w with
          | sh d => cases e3; exact dv
          | ow ds => cases e3; exact dv
          | ob _ _ => cases e3
          | rg r =>
            have z := RD.fzv_of (r := r) (d := y) e3
            simp only [SV.fz, z] at dv
            exact dv
        | err _ => rw [ee] at e3; cases e3
        | stuck => rw [ee] at e3; cases e3
      · rw [hc]
        intro G3 H3 s3
        refine iteF ?_
        obtain ⟨gD3, hD3⟩ := s3.own gD' hD'
        exact ⟨G3, acc, ys, zs, (st.trans sd).trans s3, hD3, gD3, (dq.mono sd.gg).mono s3.gg, by omega, e4, ez⟩
    · rintro Hc ⟨Gc, acc, ys, zs, st, hDc, gD, dq, hyl, el, ez⟩
      rw [List.drop_length] at el
      cases el
      rw [List.append_nil] at ez
      subst ez
      exact o D acc Gc Hc (s1.trans st) (SameH.free s1.hh hD) gD hDc dq
/-- the tests of a clause: none, one -/
def VTs (X : Cx) (T : Ct) (B : Hp × Hp) (ifs : List Expr) (c : FE) : Prop := PTs X ifs (rdT T E0 B c)
theorem vts_nil : VTs X T B [] (vC (.bool true)) := ⟨fun pins s σ H Q I h => by
  obtain ⟨G, env, S, o⟩ := h
  exact pts_nil.run pins s σ H Q I (o G H (Step.refl S.gh))⟩
theorem vts_one {c : Expr} {f : FE} (h : VT X T E0 B c f) : VTs X T B [c] f := pts_one h
theorem ve_lc {elt iter : Expr} {ifs : List Expr} {scope : Scope} {own : List (Str × Nat)} {gt : TG} {is : List Nat} {t : Tg} {it : FI} {fc fe : FE} (C : Cv X T EX B) (hi : VI X T EX B tg iter it) (ok : BlkOk X.N X.env.scope scope own)
    (hr : TgRun T B gt is t) (hg : ∀ (s : Shared) (H : Hp) (C : Addr) (cl : List (Str × Addr)) (fp : List Addr), PG (X.blk s H scope (compEnvC scope cl C X.env) fp) tg gt) (ht : ∀ (s : Shared) (H : Hp) (C : Addr) (cl : List (Str × Addr)) (fp : List Addr), VTs (X.blk s H scope (compEnvC scope cl C X.env) fp) T B ifs fc)
    (he : ∀ (s : Shared) (H : Hp) (C : Addr) (cl : List (Str × Addr)) (fp : List Addr), VE (X.blk s H scope (compEnvC scope cl C X.env) fp) T E0 B elt fe) (hsub : ∀ i ∈ is, i ∈ own.map (·.2) := by decide) (hs : ∀ x, foldedSetIterable iter X.env x = pure x := by intro _; rfl) :
    VE X T EX B (.ListComp elt [⟨tg, iter, ifs, 0⟩] scope pos) (vLc (own.map (·.2)) t it fc fe) := by
  exact pe_weak (pe_lc C.calm C.nd hi ok hg ht he hs) fun σ H Q q => lc_use hr hsub q
end
end VL
namespace VL
open PySem L2
/-! ### statements -/
@[simp] def R.s (r : R) (k : SV → SR) : SR := match r with
  | .val v => k v
  | .err c => .err c
  | .stuck => .stuck
@[simp] def sNil : FS := fun env => .nx env
@[simp] def sSeq (s t : FS) : FS := fun env => match s env with
  | .nx e => t e
  | r => r
@[simp] def sExpr (f : FE) : FS := fun env => (f env).s fun _ => .nx env
@[simp] def sRet (f : FE) : FS := fun env => (f env).s fun v => .rt v
@[simp] def sRetN : FS := fun _ => .rt (.sh .none)
@[simp] def sRetO (i : Nat) : FS := fun env => match env[i]? with
  | some (some (.ow ds)) => .rt (.ow ds)
  | _ => .stuck
/-- a value that is never changed -/
@[simp] def sSet (i : Nat) (f : FE) : FS := fun env => (f env).s fun v => .nx (env.set i (some v.fz))
/-- a list of one's own -/
@[simp] def SV.fzR : SV → SV
  | .rg r => SV.fz (.rg r)
  | v => v
@[simp] def sOwn (i : Nat) (f : FE) : FS := fun env => (f env).s fun v => .nx (env.set i (some v.fzR))
@[simp] def sIf (c : FE) (s t : FS) : FS := fun env => match c env with
  | .val (.sh (.bool true)) => s env
  | .val (.sh (.bool false)) => t env
  | .err c => .err c
  | _ => .stuck
@[simp] def sFrz (i : Nat) (s : FS) : FS := fun env => match env[i]? with
  | some (some (.ow ds)) => s (env.set i (some (.sh (.list ds))))
  | _ => s env
def forL (t : Tg) (b : FS) : List D → VEnv → SR
  | [], env => .nx env
  | d :: r, env => match t d env with
    | none => .stuck
    | some env' => match b env' with
      | .nx e => forL t b r e
      | q => q
@[simp] def sFor (t : Tg) (it : FI) (b : FS) : FS := fun env => match it env with
  | .val ds => forL t b ds env
  | .err c => .err c
  | .stuck => .stuck
def sWhile : Nat → FE → FS → FS
  | 0, _, _ => fun _ => .stuck
  | n + 1, c, b => fun env => match c env with
    | .val (.sh (.bool true)) => (match b env with
      | .nx e => sWhile n c b e
      | q => q)
    | .val (.sh (.bool false)) => .nx env
    | .err c => .err c
    | _ => .stuck
section
variable {X : Cx} {T : Ct} {EX : XK} {B : Hp × Hp} {e a b c o tg : Expr} {es : List Expr} {pos p p2 : Pos} {f g h : FE} {fs : List FE} {G H G1 H1 : Hp} {Q : VK} {st : Stmt} {sts : List Stmt} {s t : FS} {D : Ends} {σ : L2.St} {env : VEnv}
theorem OutS.mono {r : SR} {D D' : Ends} (h : OutS T EX B r G D) (hn : ∀ σ H, D.nx σ H → D'.nx σ H) (hr : ∀ v H, D.rt v H → D'.rt v H) : OutS T EX B r G D' := by
  cases r with
  | nx e => exact fun G' σ' H' s S => hn _ _ (h G' σ' H' s S)
  | rt v => exact Out.mono h hr
  | err c => exact h
  | stuck => exact h
theorem OutS.step {r : SR} (h : OutS T EX B r G D) (s : Same G G1) : OutS T EX B r G1 D := by
  cases r with
  | nx e => exact fun G' σ' H' s' S => h G' σ' H' (s.trans s') S
  | rt v => exact h
  | err c => exact h
  | stuck => exact h
/-- a statement's expression -/
theorem seqS {k : SV → SR} {P : VK} (S : Sim T B G env σ H) (h : OutS T EX B ((f env).s k) G D) (hk : ∀ v, f env = .val v → OutS T EX B (k v) G D → Out T EX (.val v) G H P) : rdV T EX B f σ H P := by
  refine ⟨G, env, S, ?_⟩
  cases e : f env with
  | val v => rw [e] at h; exact hk v e h
  | err c => rw [e] at h; exact fun H' z => h H' (S.st.hh.trans z)
  | stuck => rw [e] at h; exact h
theorem vss_nil : VSs X T EX B [] sNil := pss_weak pss_nil fun D σ H q => by
  obtain ⟨G, env, S, o⟩ := q
  exact o G σ H (Same.refl _) S
theorem rdS_seq (q : rdS T EX B (sSeq s t) D σ H) : rdS T EX B s { D with nx := rdS T EX B t D } σ H := by
  obtain ⟨G, env, S, o⟩ := q
  refine ⟨G, env, S, ?_⟩
  unfold sSeq at o
  revert o
  cases s env with
  | nx e => exact fun o G' σ' H' sg S' => ⟨G', e, S', o.step sg⟩
  | rt v => exact fun o => o
  | err c => exact fun o => o
  | stuck => exact fun o => o
theorem vss_cons (h1 : VS X T EX B st s) (h2 : VSs X T EX B sts t) : VSs X T EX B (st :: sts) (sSeq s t) := pss_weak (pss_cons h1 h2) fun D σ H q => rdS_seq q
theorem vss_one (h1 : VS X T EX B st s) : VSs X T EX B [st] s := pss_one h1
theorem vs_pass : VS X T EX B (.Pass pos) sNil := ps_weak ps_pass fun D σ H q => by
  obtain ⟨G, env, S, o⟩ := q
  exact o G σ H (Same.refl _) S
theorem vs_expr (he : VE X T EX B e f) (hs : swapsWith e none pos.line X.env = pure false := by rfl) : VS X T EX B (.Expr e pos) (sExpr f) := ps_weak (ps_expr he hs) fun D σ H q => by
  obtain ⟨G, env, S, o⟩ := q
  exact seqS S o fun v _ o => Out.fz fun x G' H' s q => o G' σ H' s.gg (S.step s)
theorem vs_ret (he : VE X T EX B e f) : VS X T EX B (.Return (some e) pos) (sRet f) := ps_weak (ps_ret he) fun D σ H q => by
  obtain ⟨G, env, S, o⟩ := q
  exact seqS S o fun v _ o => Out.step o S.st
theorem vs_retN : VS X T EX B (.Return none pos) sRetN := ps_weak ps_retN fun D σ H q => by
  obtain ⟨G, env, S, o⟩ := q
  exact o .non G H S.st .non
theorem vs_retO (i : Nat) {x : Str} {px : Pos} (hN : X.N[i]? = some x := by rfl) (hv : Vis X.env.scope x := by first | exact Or.inl rfl | exact Or.inr (Or.inl rfl) | exact Or.inr (Or.inr rfl)) (hd : (x == ("__debug__" : Str)) = false := by decide) (hcd : (x == ("__classdict__" : Str)) = false := by decide) :
    VS X T EX B (.Return (some (.Name x px)) pos) (sRetO i) := ps_weak (ps_ret (pe_var hN hv hd hcd)) fun D σ H q => by
  obtain ⟨G, env, S, o⟩ := q
  unfold sRetO at o
  split at o
  · rename_i ds e
    obtain ⟨p, xs, h1, h2, h3, h4, h5⟩ := S.ow i ds e
    exact ⟨.ref p, h1, o p xs G H S.st h4 h3 h2 h5⟩
  · exact o.elim
theorem set_fz {v : SV} {i : Nat} (S : Sim T B G env σ H) (o : OutS T EX B (.nx (env.set i (some v.fz))) G D) : Out T EX (.val v) G H (fun x H1 => D.nx (σ.set i (some x)) H1) :=
  Out.fz fun x G' H' s q => by
    have S1 := S.step s
    cases v with
    | sh d => exact o G' _ H' s.gg (S1.setSh q)
    | ow ds => exact o G' _ H' s.gg (S1.setSh q)
    | ob c fs => exact o G' _ H' s.gg (S1.setOb q)
    | rg r =>
      revert o q
      generalize SV.fz (.rg r) = w
      intro o q
      cases w with
      | sh d => exact o G' _ H' s.gg (S1.setSh q)
      | ow ds => exact q.elim
      | rg _ => exact q.elim
      | ob c fs => exact o G' _ H' s.gg (S1.setOb q)
/-- no place of a thing of one's own is new -/
theorem newR_old {H' G' : Hp} {p : Addr} (S : Sim T B G env σ H) (s : Step G H G' H') (n : H p = none) {j : Nat} {r : RD} {v : V} {F : List Addr} (e : env[j]? = some (some (.rg r))) (w : σ[j]? = some (some v)) (q : RRp T G' H' F v r) : p ∉ F := by
  obtain ⟨u, v', F', a', b', c'⟩ := S.rg j r e
  rw [w] at a'; cases a'
  obtain ⟨_, k⟩ := s.keepS (fun a m => (b'.nw a m).1) (RRp.at r F' v b'.rp)
  rw [RRp.det r F' F v b'.rp q k]
  intro m
  obtain ⟨o, h, _⟩ := RRp.at r F' v b'.rp p m
  rw [n] at h; cases h
theorem set_ow {v : SV} {i : Nat} (S : Sim T B G env σ H) (o : OutS T EX B (.nx (env.set i (some v.fzR))) G D) : Out T EX (.val v) G H (fun x H1 => D.nx (σ.set i (some x)) H1) := by
  cases v with
  | rg r => exact set_fz S o
  | sh d => exact fun x G' H' s q => o G' _ H' s.gg ((S.step s).setSh q)
  | ob c fs => exact fun x G' H' s q => o G' _ H' s.gg ((S.step s).setOb q)
  | ow ds =>
    intro p xs G' H' s n1 n2 ep q
    refine o G' _ H' s.gg ((S.step s).setOw (SameH.free S.st.hh n1) n2 ep q (fun j es z _ w => ?_) fun j r v F z _ w y => newR_old S s n1 z w y)
    obtain ⟨p', ys, h1, h2, _⟩ := S.ow j es z
    rw [w] at h1; cases h1
    rw [n1] at h2; cases h2
theorem vs_set (i : Nat) {x : Str} {pos' : Pos} (C : Cv X T EX B) (he : VE X T EX B e f) (hi : X.N[i]? = some x := by rfl) (hx : Loc X.env.scope x := by first | exact .inl rfl | exact .inr rfl) (hs : swapsWith e (some (.Name x pos')) pos.line X.env = pure false := by rfl) (hf : X.fn x = true ∨ X.env.scope.names.lookup x = some .local := by first | exact .inl rfl | exact .inr rfl) :
    VS X T EX B (.Assign [.Name x pos'] e pos) (sSet i f) := ps_weak (ps_set C.nd hi hx he hs hf) fun D σ H q => by
  obtain ⟨G, env, S, o⟩ := q
  exact seqS S o fun v _ o => set_fz S o
theorem vs_own (i : Nat) {x : Str} {pos' : Pos} (C : Cv X T EX B) (he : VE X T EX B e f) (hi : X.N[i]? = some x := by rfl) (hx : Loc X.env.scope x := by first | exact .inl rfl | exact .inr rfl) (hs : swapsWith e (some (.Name x pos')) pos.line X.env = pure false := by rfl) (hf : X.fn x = true ∨ X.env.scope.names.lookup x = some .local := by first | exact .inl rfl | exact .inr rfl) :
    VS X T EX B (.Assign [.Name x pos'] e pos) (sOwn i f) := ps_weak (ps_set C.nd hi hx he hs hf) fun D σ H q => by
  obtain ⟨G, env, S, o⟩ := q
  exact seqS S o fun v _ o => set_ow S o
/-- x = [.. for ..] on one line -/
theorem vs_setLc (i : Nat) {y : Str} {py : Pos} {elt iter : Expr} {ifs : List Expr} {scope : Scope} {own : List (Str × Nat)} {spos : Pos} {gt : TG} {is : List Nat} {tt : Tg} {it : FI} {fc fe : FE} (C : Cv X T EX B)
    (hi : VI X T EX B tg iter it) (ok : BlkOk X.N X.env.scope scope own) (hr : TgRun T B gt is tt)
    (hg : ∀ (s : Shared) (H : Hp) (C : Addr) (cl : List (Str × Addr)) (fp : List Addr), PG (X.blk s H scope (compEnvC scope cl C X.env) fp) tg gt) (ht : ∀ (s : Shared) (H : Hp) (C : Addr) (cl : List (Str × Addr)) (fp : List Addr), VTs (X.blk s H scope (compEnvC scope cl C X.env) fp) T B ifs fc)
    (he : ∀ (s : Shared) (H : Hp) (C : Addr) (cl : List (Str × Addr)) (fp : List Addr), VE (X.blk s H scope (compEnvC scope cl C X.env) fp) T E0 B elt fe) (hsub : ∀ i ∈ is, i ∈ own.map (·.2) := by decide) (hs : ∀ x, foldedSetIterable iter X.env x = pure x := by intro _; rfl)
    (hy : X.N[i]? = some y := by rfl) (hyl : X.env.scope.names.lookup y = some .local := by rfl) (hsw : swapsWith (.ListComp elt [⟨tg, iter, ifs, 0⟩] scope pos) (some (.Name y py)) spos.line X.env = pure true := by exact sw_true rfl rfl rfl (by decide +kernel)) :
    VS X T EX B (.Assign [.Name y py] (.ListComp elt [⟨tg, iter, ifs, 0⟩] scope pos) spos) (sSet i (vLc (own.map (·.2)) tt it fc fe)) := ps_weak (ps_setLc C.calm C.nd hy hyl hsw hi ok hg ht he hs) fun D σ H q => by
  obtain ⟨G, env, S, o⟩ := q
  exact lc_use hr hsub (seqS S o fun v _ o => set_fz S o)
theorem vs_ownLc (i : Nat) {y : Str} {py : Pos} {elt iter : Expr} {ifs : List Expr} {scope : Scope} {own : List (Str × Nat)} {spos : Pos} {gt : TG} {is : List Nat} {tt : Tg} {it : FI} {fc fe : FE} (C : Cv X T EX B)
    (hi : VI X T EX B tg iter it) (ok : BlkOk X.N X.env.scope scope own) (hr : TgRun T B gt is tt)
    (hg : ∀ (s : Shared) (H : Hp) (C : Addr) (cl : List (Str × Addr)) (fp : List Addr), PG (X.blk s H scope (compEnvC scope cl C X.env) fp) tg gt) (ht : ∀ (s : Shared) (H : Hp) (C : Addr) (cl : List (Str × Addr)) (fp : List Addr), VTs (X.blk s H scope (compEnvC scope cl C X.env) fp) T B ifs fc)
    (he : ∀ (s : Shared) (H : Hp) (C : Addr) (cl : List (Str × Addr)) (fp : List Addr), VE (X.blk s H scope (compEnvC scope cl C X.env) fp) T E0 B elt fe) (hsub : ∀ i ∈ is, i ∈ own.map (·.2) := by decide) (hs : ∀ x, foldedSetIterable iter X.env x = pure x := by intro _; rfl)
    (hy : X.N[i]? = some y := by rfl) (hyl : X.env.scope.names.lookup y = some .local := by rfl) (hsw : swapsWith (.ListComp elt [⟨tg, iter, ifs, 0⟩] scope pos) (some (.Name y py)) spos.line X.env = pure true := by exact sw_true rfl rfl rfl (by decide +kernel)) :
    VS X T EX B (.Assign [.Name y py] (.ListComp elt [⟨tg, iter, ifs, 0⟩] scope pos) spos) (sOwn i (vLc (own.map (·.2)) tt it fc fe)) := ps_weak (ps_setLc C.calm C.nd hy hyl hsw hi ok hg ht he hs) fun D σ H q => by
  obtain ⟨G, env, S, o⟩ := q
  exact lc_use hr hsub (seqS S o fun v _ o => set_ow S o)
theorem rdS_if (q : rdS T EX B (sIf h s t) D σ H) : rdT T EX B h σ H (fun b H1 => if b = true then rdS T EX B s D σ H1 else rdS T EX B t D σ H1) := by
  obtain ⟨G, env, S, o⟩ := q
  refine ⟨G, env, S, ?_⟩
  unfold sIf at o
  split at o
  · rename_i e
    rw [e]; exact fun G' H' s' => iteT ⟨G', env, S.step s', o.step s'.gg⟩
  · rename_i e
    rw [e]; exact fun G' H' s' => iteF ⟨G', env, S.step s', o.step s'.gg⟩
  · rename_i c e
    rw [e]; exact fun H' z => o H' (S.st.hh.trans z)
  · exact o.elim
theorem vs_if {sa sb : List Stmt} (hc : VT X T EX B c h) (ha : VSs X T EX B sa s) (hb : VSs X T EX B sb t) : VS X T EX B (.If c sa sb pos) (sIf h s t) := ps_weak (ps_if hc ha hb) fun D σ H q => rdS_if q
theorem vs_frz (i : Nat) (h : VS X T EX B st s) : VS X T EX B st (sFrz i s) := ps_weak h fun D σ H q => by
  obtain ⟨G, env, S, o⟩ := q
  unfold sFrz at o
  split at o
  · rename_i ds e
    obtain ⟨G', sg, S'⟩ := S.frz e
    exact ⟨G', _, S', o.step sg⟩
  · exact ⟨G, env, S, o⟩
theorem vs_for {body : List Stmt} {gt : TG} {is : List Nat} {tt : Tg} {it : FI} (C : Cv X T EX B) (po : PassesOwn (model X.prog X.w) X.A X.env X.xe) (hi : VI X T EX B tg a it) (hr : TgRun T B gt is tt) (hg : PG X tg gt) (hb : VSs X T EX B body s) (hs : ∀ x, foldedSetIterable a X.env x = pure x := by intro _; rfl) :
    VS X T EX B (.For tg a body [] pos) (sFor tt it s) := ps_weak (ps_for po C.calm hi hg hb hs) fun D σ H q => by
  obtain ⟨G, env, S, o⟩ := q
  refine ⟨G, env, S, ?_⟩
  unfold sFor at o
  revert o
  cases it env with
  | err c => exact fun o H' z => o H' (S.st.hh.trans z)
  | stuck => exact fun o => o
  | val ds =>
    intro o J G1 H1 s1 wk
    dsimp only at o
    refine for_it wk (fun i σ H => ∃ Gc env', Sim T B Gc env' σ H ∧ Same G1 Gc ∧ OutS T EX B (forL tt s (ds.drop i) env') Gc D) ⟨G1, env, S.step s1, Same.refl _, o.step s1.gg⟩ ?_ ?_ ?_
    · rintro i σ H _ ⟨Gc, env', S', sg, _⟩
      exact sg.trans S'.gh
    · rintro i x σ Hc H' hi ⟨Gc, env', S', sg, o'⟩ y
      obtain ⟨d, Gd, hd, sd, dx⟩ := y Gc sg S'.gh
      have ed : ds.drop i = d :: ds.drop (i + 1) := by
        have hi' : i < ds.length := hi
        rw [List.drop_eq_getElem_cons hi']
        rw [List.getElem?_eq_getElem hi'] at hd
        cases hd; rfl
      rw [ed] at o'
      unfold forL at o'
      split at o'
      · exact o'.elim
      · rename_i env2 e2
        refine hr (S'.step sd) dx e2 fun σ2 S2 _ => ⟨Gd, env2, S2, ?_⟩
        revert o'
        cases s env2 with
        | nx e3 => exact fun o' G' σ' H' sg' S3 => ⟨G', e3, S3, (sg.trans sd.gg).trans sg', o'.step (sd.gg.trans sg')⟩
        | rt v => exact fun o' => o'
        | err c => exact fun o' => o'
        | stuck => exact fun o' => o'
    · rintro σ H ⟨Gc, env', S', sg, o'⟩
      rw [List.drop_length] at o'
      exact o' Gc σ H (Same.refl _) S'
theorem vs_while {body : List Stmt} (n : Nat) (po : PassesOwn (model X.prog X.w) X.A X.env X.xe) (hc : VT X T EX B c h) (hb : VSs X T EX B body s) : VS X T EX B (.While c body [] pos) (sWhile n h s) := ps_weak (ps_while po hc hb) fun D σ H q => by
  obtain ⟨G, env, S, o⟩ := q
  refine ⟨fun m σ H => ∃ G env, Sim T B G env σ H ∧ OutS T EX B (sWhile m h s env) G D, ⟨n, G, env, S, o⟩, ?_⟩
  rintro m σ H ⟨G, env, S, o⟩
  refine ⟨G, env, S, ?_⟩
  cases m with
  | zero => exact o.elim
  | succ m =>
    unfold sWhile at o
    split at o
    · rename_i e
      rw [e]
      intro G' H' s'
      refine iteT ⟨fun σ H => ∃ G env, Sim T B G env σ H ∧ OutS T EX B (sWhile m h s env) G D, fun σ' H' z => ⟨m, Nat.lt_succ_self _, z⟩, G', env, S.step s', ?_⟩
      have o' := o.step s'.gg
      revert o'
      cases s env with
      | nx e3 => exact fun o' G2 σ2 H2 sg S3 => ⟨G2, e3, S3, o'.step sg⟩
      | rt v => exact fun o' => o'
      | err c => exact fun o' => o'
      | stuck => exact fun o' => o'
    · rename_i e
      rw [e]
      exact fun G' H' s' => iteF (o G' σ H' s'.gg (S.step s'))
    · rename_i c e
      rw [e]; exact fun H' z => o H' (S.st.hh.trans z)
    · exact o.elim
end
end VL
namespace VL
open PySem L2
/-! ### a list of one's own: changed, read -/
@[simp] def sApp (i : Nat) (f : FE) : FS := fun env => match env[i]? with
  | some (some (.ow ds)) => (match evA [f] env with
    | .val [.sh d] => if ds.length ≤ 1000000 then .nx (env.set i (some (.ow (ds ++ [d])))) else .stuck
    | .err c => .err c
    | _ => .stuck)
  | _ => .stuck
@[simp] def sExt (i : Nat) (f : FE) : FS := fun env => match env[i]? with
  | some (some (.ow ds)) => (match evA [f] env with
    | .val [.sh (.list es)] => if ds.length + es.length ≤ 1000000 then .nx (env.set i (some (.ow (ds ++ es)))) else .stuck
    | .err c => .err c
    | _ => .stuck)
  | _ => .stuck
/-- x = y.pop() -/
@[simp] def sPop (i j : Nat) : FS := fun env => match env[j]? with
  | some (some (.ow ds)) => (match ds.getLast? with
    | some d => .nx ((env.set j (some (.ow ds.dropLast))).set i (some (.sh d)))
    | none => .stuck)
  | _ => .stuck
/-- y.pop() -/
@[simp] def sPopN (j : Nat) : FS := fun env => match env[j]? with
  | some (some (.ow ds)) => (match ds.getLast? with
    | some d => .nx (env.set j (some (.ow ds.dropLast)))
    | none => .stuck)
  | _ => .stuck
/-- xs[k] = e -/
@[simp] def sPut (i : Nat) (g f : FE) : FS := fun env => match env[i]? with
  | some (some (.ow ds)) => (f env).s fun v => match v.fz with
    | .sh d => (match g env with
      | .val (.sh (.int k)) => (match ixN ds.length k with
        | some j => .nx (env.set i (some (.ow (ds.set j d))))
        | none => .stuck)
      | .err c => .err c
      | _ => .stuck)
    | _ => .stuck
  | _ => .stuck
def vLenO (i : Nat) : FE := fun env => match env[i]? with
  | some (some (.ow ds)) => ri ds.length
  | _ => .stuck
def vIxO (i : Nat) (g : FE) : FE := fun env => match env[i]? with
  | some (some (.ow ds)) => (g env).d fun y => fIx (.list ds) y
  | _ => .stuck
/-- xs == [], xs != [] -/
def vNilO (k : Bool) (i : Nat) : FE := fun env => match env[i]? with
  | some (some (.ow ds)) => rb (k ^^ ds.isEmpty)
  | _ => .stuck
@[simp] def sAdd (i : Nat) (f : FE) : FS := fun env => match env[i]? with
  | some (some (.sh (.int x))) => (match f env with
    | .val (.sh (.int y)) => .nx (env.set i (some (.sh (.int (x + y)))))
    | .err c => .err c
    | _ => .stuck)
  | _ => .stuck
section
variable {X : Cx} {T : Ct} {EX : XK} {B : Hp × Hp} {e a b c o tg : Expr} {es : List Expr} {pos p p2 : Pos} {f g h : FE} {fs : List FE} {G H G1 H1 : Hp} {Q : VK} {st : Stmt} {sts : List Stmt} {s t : FS} {D : Ends} {σ : L2.St} {env : VEnv}
/-- extend by a list that may be locked -/
def rExtR : V → List V → Hp → VK → Prop := fun x vs H Q => ∃ l b xs zs, x = .ref l ∧ vs = [.ref b] ∧ H l = some (.lst xs) ∧ SqL [] H b zs ∧ xs.length + zs.length ≤ sizeLine ∧ Q .non (upd H l (.lst (xs ++ zs)))
theorem mt_extR : MtM X "list.extend" rExtR := by
  intro pins s σ H x vs v us Q I rx rv h
  obtain ⟨l, b, xs, zs, rfl, rfl, hH, hB, hz, q⟩ := h
  cases rx
  obtain ⟨u, rfl, ru⟩ := rv.one
  cases ru
  obtain ⟨z, its, n, r, hl, e⟩ := I.lstM hH
  obtain ⟨z2, its2, n2, r2, hl2, e2⟩ := rd_lst I hB
  have hsz : its.toArray.size + its2.toArray.size ≤ sizeLine := by rw [List.size_toArray, List.size_toArray]; omega
  have hlong : ¬ (!its.toArray.isEmpty && Builtin.List.listTooLong (its.toArray.size + its2.toArray.size)) = true := by
    rw [notLongL hsz, Bool.and_false]
    exact Bool.false_ne_true
  refine call_meets F.slot_list_extend ⟨_, e, rfl⟩ F.entry_list_extend (F.args_list_extend_2 _ _)
    (AutoSeq1.list_extend_list_list_0 l its.toArray n b its2.toArray n2 hlong (by rw [List.size_toArray]; omega) (by omega)) ⟨e, e2, ?_⟩
  refine ⟨.non, _, I.lset (its' := its ++ its2) hH e (by simp) (r.append r2) ?_, rfl, q⟩
  rw [List.length_append]
  omega
/-- one argument, then the list is changed -/
theorem args1 {K : SV → SR} {P : List V → Hp → Prop} (S : Sim T B G env σ H) (h : OutS T EX B (match evA [f] env with | .val [d] => K d | .err c => .err c | _ => .stuck) G D)
    (hk : ∀ a v G1 H1, Step G H G1 H1 → VRp T G1 v a → Sim T B G1 env σ H1 → OutS T EX B (K a) G1 D → P [v] H1) : rdA T EX B [f] σ H P := by
  refine ⟨G, env, S, ?_⟩
  revert h
  cases evA [f] env with
  | val as =>
    intro h vs G' H' s' q
    split at h
    · rename_i d e
      cases e
      cases q with
      | cons h1 t =>
        cases t
        exact hk d _ G' H' s' h1 (S.step s') (h.step s'.gg)
    · rename_i e; cases e
    · exact h.elim
  | err c => exact fun h H' z => h H' (S.st.hh.trans z)
  | stuck => exact fun h => h
theorem vs_app (i : Nat) {x : Str} {px apos cpos : Pos} (he : VE X T EX B e f) (hN : X.N[i]? = some x := by rfl) (hv : Vis X.env.scope x := by first | exact Or.inl rfl | exact Or.inr (Or.inl rfl) | exact Or.inr (Or.inr rfl)) (hd : (x == ("__debug__" : Str)) = false := by decide) (hcd : (x == ("__classdict__" : Str)) = false := by decide)
    (hline : (apos.endLine == cpos.line) = true := by rfl) (hs : starEach [e] X.env = [(false, eval e X.env)] := by rfl) :
    VS X T EX B (.Expr (.Call (.Attribute (.Name x px) "append" apos) [e] [] cpos) pos) (sApp i f) := by
  refine ps_weak (ps_expr (pe_bm PySem.F.plainAttrs_list PySem.F.slot_list_append PySem.F.type_list_append mt_append (pe_var hN hv hd hcd) (va_cons he va_nil hs) rfl (by rw [hs]; rfl) hline hs rfl) rfl) fun D σ H q => ?_
  obtain ⟨G, env, S, o⟩ := q
  unfold sApp at o
  split at o
  · rename_i ds ei
    obtain ⟨p, xs, h1, h2, h3, h4, h5⟩ := S.ow i ds ei
    refine ⟨.ref p, h1, .inl ⟨rfl, xs, SqL.of h2⟩, args1 (D := D) (K := fun a => match a with | .sh d => if ds.length ≤ 1000000 then .nx (env.set i (some (.ow (ds ++ [d])))) else .stuck | _ => .stuck) S ?_ fun a v G1 H1 s1 rp S1 o1 => ?_⟩
    · revert o
      cases evA [f] env with
      | val as =>
        cases as with
        | nil => exact fun o => o
        | cons a r =>
          cases r with
          | nil => cases a <;> exact fun o => o
          | cons _ _ => exact fun o => by cases a <;> exact o
      | err c => exact fun o => o
      | stuck => exact fun o => o
    · cases a with
      | sh d =>
        dsimp only at o1
        split at o1
        · rename_i hl
          obtain ⟨h3', h2'⟩ := s1.own h3 h2
          have h5' := h5.mono s1.gg
          refine ⟨p, xs, v, rfl, rfl, h2', by rw [h5.length]; exact gl_line hl, o1 G1 σ _ (Same.refl _) (S1.write ei h1 (h5'.append (.cons rp .nil)))⟩
        · exact o1.elim
      | ow _ => exact o1.elim
      | ob _ _ => exact o1.elim
      | rg _ => exact o1.elim
  · exact o.elim
theorem vs_ext (i : Nat) {x : Str} {px apos cpos : Pos} (he : VE X T EX B e f) (hN : X.N[i]? = some x := by rfl) (hv : Vis X.env.scope x := by first | exact Or.inl rfl | exact Or.inr (Or.inl rfl) | exact Or.inr (Or.inr rfl)) (hd : (x == ("__debug__" : Str)) = false := by decide) (hcd : (x == ("__classdict__" : Str)) = false := by decide)
    (hline : (apos.endLine == cpos.line) = true := by rfl) (hs : starEach [e] X.env = [(false, eval e X.env)] := by rfl) :
    VS X T EX B (.Expr (.Call (.Attribute (.Name x px) "extend" apos) [e] [] cpos) pos) (sExt i f) := by
  refine ps_weak (ps_expr (pe_bm PySem.F.plainAttrs_list PySem.F.slot_list_extend PySem.F.type_list_extend mt_extR (pe_var hN hv hd hcd) (va_cons he va_nil hs) rfl (by rw [hs]; rfl) hline hs rfl) rfl) fun D σ H q => ?_
  obtain ⟨G, env, S, o⟩ := q
  unfold sExt at o
  split at o
  · rename_i ds ei
    obtain ⟨p, xs, h1, h2, h3, h4, h5⟩ := S.ow i ds ei
    refine ⟨.ref p, h1, .inl ⟨rfl, xs, SqL.of h2⟩, args1 (D := D) (K := fun a => match a with | .sh (.list es) => if ds.length + es.length ≤ 1000000 then .nx (env.set i (some (.ow (ds ++ es)))) else .stuck | _ => .stuck) S ?_ fun a v G1 H1 s1 rp S1 o1 => ?_⟩
    · revert o
      cases evA [f] env with
      | val as =>
        cases as with
        | nil => exact fun o => o
        | cons a r =>
          cases r with
          | nil =>
            cases a with
            | sh d => cases d <;> exact fun o => o
            | ow _ => exact fun o => o
            | ob _ _ => exact fun o => o
            | rg _ => exact fun o => o
          | cons _ _ =>
            cases a with
            | sh d => cases d <;> exact fun o => o
            | ow _ => exact fun o => o
            | ob _ _ => exact fun o => o
            | rg _ => exact fun o => o
      | err c => exact fun o => o
      | stuck => exact fun o => o
    · split at o1
      · split at o1
        · rename_i hl
          obtain ⟨h3', h2'⟩ := s1.own h3 h2
          have h5' := h5.mono s1.gg
          obtain ⟨l2, zs, rfl, sq, q2⟩ := Dq.lstH rp S1.gh
          refine ⟨p, l2, xs, zs, rfl, rfl, h2', sq, by rw [h5.length, q2.length]; exact Nat.le_of_lt (gl_line hl), o1 G1 σ _ (Same.refl _) (S1.write ei h1 (h5'.append q2))⟩
        · exact o1.elim
      · exact o1.elim
  · exact o.elim
theorem dq_last {ds : List VL.D} {xs : List V} {d : VL.D} (q : DqAll G xs ds) (h : ds.getLast? = some d) : ∃ y, xs[xs.length - 1]? = some y ∧ Dq G y d := by
  rw [List.getLast?_eq_getElem?] at h
  rw [q.length]
  exact q.get h
theorem dq_dropLast {ds : List VL.D} {xs : List V} (q : DqAll G xs ds) : DqAll G xs.dropLast ds.dropLast := by
  rw [List.dropLast_eq_take, List.dropLast_eq_take, q.length]
  exact q.take _
theorem vs_pop (i j : Nat) {x y : Str} {px py apos cpos : Pos} (C : Cv X T EX B) (hN : X.N[j]? = some x := by rfl) (hv : Vis X.env.scope x := by first | exact Or.inl rfl | exact Or.inr (Or.inl rfl) | exact Or.inr (Or.inr rfl)) (hd : (x == ("__debug__" : Str)) = false := by decide) (hcd : (x == ("__classdict__" : Str)) = false := by decide)
    (hline : (apos.endLine == cpos.line) = true := by rfl) (hi : X.N[i]? = some y := by rfl) (hx : Loc X.env.scope y := by first | exact .inl rfl | exact .inr rfl) (hf : X.fn y = true ∨ X.env.scope.names.lookup y = some .local := by first | exact .inl rfl | exact .inr rfl) :
    VS X T EX B (.Assign [.Name y py] (.Call (.Attribute (.Name x px) "pop" apos) [] [] cpos) pos) (sPop i j) := by
  refine ps_weak (ps_set C.nd hi hx (pe_bm0 PySem.F.plainAttrs_list PySem.F.slot_list_pop PySem.F.type_list_pop mt_pop (pe_var hN hv hd hcd) rfl hline) rfl hf) fun D σ H q => ?_
  obtain ⟨G, env, S, o⟩ := q
  unfold sPop at o
  split at o
  · rename_i ds ei
    split at o
    · rename_i d hd
      obtain ⟨p, xs, h1, h2, h3, h4, h5⟩ := S.ow j ds ei
      obtain ⟨y, hy, dy⟩ := dq_last h5 hd
      have S1 := S.write ei h1 (dq_dropLast h5)
      exact ⟨.ref p, h1, .inl ⟨rfl, xs, SqL.of h2⟩, p, xs, y, rfl, rfl, h2, hy, o G _ _ (Same.refl _) (S1.setSh dy)⟩
    · exact o.elim
  · exact o.elim
theorem vs_popN (j : Nat) {x : Str} {px apos cpos : Pos} (hN : X.N[j]? = some x := by rfl) (hv : Vis X.env.scope x := by first | exact Or.inl rfl | exact Or.inr (Or.inl rfl) | exact Or.inr (Or.inr rfl)) (hd : (x == ("__debug__" : Str)) = false := by decide) (hcd : (x == ("__classdict__" : Str)) = false := by decide)
    (hline : (apos.endLine == cpos.line) = true := by rfl) : VS X T EX B (.Expr (.Call (.Attribute (.Name x px) "pop" apos) [] [] cpos) pos) (sPopN j) := by
  refine ps_weak (ps_expr (pe_bm0 PySem.F.plainAttrs_list PySem.F.slot_list_pop PySem.F.type_list_pop mt_pop (pe_var hN hv hd hcd) rfl hline) rfl) fun D σ H q => ?_
  obtain ⟨G, env, S, o⟩ := q
  unfold sPopN at o
  split at o
  · rename_i ds ei
    split at o
    · rename_i d hd
      obtain ⟨p, xs, h1, h2, h3, h4, h5⟩ := S.ow j ds ei
      obtain ⟨y, hy, dy⟩ := dq_last h5 hd
      have S1 := S.write ei h1 (dq_dropLast h5)
      exact ⟨.ref p, h1, .inl ⟨rfl, xs, SqL.of h2⟩, p, xs, y, rfl, rfl, h2, hy, o G _ _ (Same.refl _) S1⟩
    · exact o.elim
  · exact o.elim
theorem DqAll.set : ∀ {ds : List VL.D} {xs : List V} {v : V} {d : VL.D} (j : Nat), DqAll G xs ds → Dq G v d → DqAll G (xs.set j v) (ds.set j d)
  | [], _, _, _, _, q, _ => by rw [q.inv0]; exact .nil
  | _ :: _, _, _, _, 0, q, h => by
    obtain ⟨v, vs, rfl, q1, q2⟩ := q.inv
    exact .cons h q2
  | _ :: _, _, _, _, j + 1, q, h => by
    obtain ⟨v, vs, rfl, q1, q2⟩ := q.inv
    exact .cons q1 (q2.set j h)
theorem vs_put (i : Nat) {x : Str} {px tpos : Pos} (hg : VE X T EX B b g) (he : VE X T EX B e f) (hN : X.N[i]? = some x := by rfl) (hv : Vis X.env.scope x := by first | exact Or.inl rfl | exact Or.inr (Or.inl rfl) | exact Or.inr (Or.inr rfl)) (hd : (x == ("__debug__" : Str)) = false := by decide) (hcd : (x == ("__classdict__" : Str)) = false := by decide)
    (hpg : ∀ {to ti : TE}, PE X (.Name x px) to → PE X b ti → PG X (.Subscript (.Name x px) b tpos) (gSub to ti rSetL) := by intro to ti h1 h2; exact pg_sub h1 h2 set_list)
    (hs : swapsWithSole [.Subscript (.Name x px) b tpos] e pos.line X.env = pure false := by rfl) (hw : swappedStores [.Subscript (.Name x px) b tpos] e X.env = pure none := by rfl) :
    VS X T EX B (.Assign [.Subscript (.Name x px) b tpos] e pos) (sPut i g f) := by
  refine ps_weak (ps_asg he (hpg (pe_var hN hv hd hcd) hg) hs hw) fun D σ H q => ?_
  obtain ⟨G, env, S, o⟩ := q
  unfold sPut at o
  split at o
  rotate_left
  · exact o.elim
  rename_i ds ei
  refine seqS S o fun v ev o => Out.fz fun x G' H' s rp => ?_
  have S1 := S.step s
  have o := o.step s.gg
  split at o
  · rename_i d ed
    rw [ed] at rp
    obtain ⟨p, xs, h1, h2, h3, h4, h5⟩ := S1.ow i ds ei
    refine ⟨.ref p, h1, G', env, S1, ?_⟩
    split at o
    · rename_i k eg
      split at o
      · rename_i j ej
        rw [eg]
        intro w G2 H2 s2 dw
        obtain ⟨h3', h2'⟩ := s2.own h3 h2
        refine ⟨p, xs, k, j, rfl, Dq.intInv dw, h2', by rw [h5.length]; exact ej, ?_⟩
        exact o G2 σ _ s2.gg ((S1.step s2).write ei h1 (DqAll.set j (h5.mono s2.gg) (Dq.mono rp s2.gg)))
      · exact o.elim
    · rename_i c eg
      rw [eg]
      exact fun H2 z => o H2 (S1.st.hh.trans z)
    · exact o.elim
  · exact o.elim

/-! ### reading a list of one's own -/
theorem ve_lenO (i : Nat) {x : Str} {px : Pos} (t : Bt X "len") (hN : X.N[i]? = some x := by rfl) (hv : Vis X.env.scope x := by first | exact Or.inl rfl | exact Or.inr (Or.inl rfl) | exact Or.inr (Or.inr rfl)) (hd : (x == ("__debug__" : Str)) = false := by decide) (hcd : (x == ("__classdict__" : Str)) = false := by decide) :
    VE X T EX B (.Call (.Name "len" p) [.Name x px] [] pos) (vLenO i) := pe_weak (pe_callB call_len_seq t.gl t.mg PySem.boot_len (pa_cons (pe_var hN hv hd hcd) pa_nil rfl) (by decide) (by decide) rfl rfl) fun σ H Q q => by
  obtain ⟨G, env, S, o⟩ := q
  unfold vLenO at o
  split at o
  · rename_i ds e
    obtain ⟨p, xs, h1, h2, h3, h4, h5⟩ := S.ow i ds e
    exact ⟨.ref p, h1, p, xs, rfl, .inl (SqL.of h2), by rw [h5.length]; exact o.ri S.gh⟩
  · exact o.elim
theorem ve_ixO (i : Nat) {x : Str} {px : Pos} (hb : VE X T EX B b g) (hN : X.N[i]? = some x := by rfl) (hv : Vis X.env.scope x := by first | exact Or.inl rfl | exact Or.inr (Or.inl rfl) | exact Or.inr (Or.inr rfl)) (hd : (x == ("__debug__" : Str)) = false := by decide) (hcd : (x == ("__classdict__" : Str)) = false := by decide) (hs : PlainIx b := by intro _ _; rfl) :
    VE X T EX B (.Subscript (.Name x px) b pos) (vIxO i g) := pe_weak (pe_ix ix_list (pe_var hN hv hd hcd) hb hs) fun σ H Q q => by
  obtain ⟨G, env, S, o⟩ := q
  unfold vIxO at o
  split at o
  · rename_i ds e
    obtain ⟨p, xs, h1, h2, h3, h4, h5⟩ := S.ow i ds e
    refine ⟨.ref p, h1, rdV_mono (seqD S o) fun y H1 ⟨dy, G1, s1, hy, S1, o1⟩ => ?_⟩
    obtain ⟨h3', h2'⟩ := s1.own h3 h2
    unfold fIx at o1
    split at o1
    · rename_i z; cases z
    · rename_i ds' k z
      cases z
      rw [hy.intInv]
      split at o1
      · rename_i d ed
        obtain ⟨v, e1, d1⟩ := (h5.mono s1.gg).atI ed
        exact ⟨p, xs, k, v, rfl, rfl, SqL.of h2', e1, o1.ok S1.gh d1⟩
      · exact o1.elim
    · exact o1.elim
  · exact o.elim
theorem eqv_nil : ∀ ds : List VL.D, PyData.eqv (.list ds) (.list []) = ds.isEmpty
  | [] => by simp only [PyData.eqv, PyData.eqvAll, List.isEmpty_nil]
  | d :: r => by simp only [PyData.eqv, PyData.eqvAll, List.isEmpty_cons]
theorem nil_prim {k : Bool} {i : Nat} (op : CmpOp) (ho : OpR X (compareOp op) (rEqQ k)) (S : Sim T B G env σ H) (o : Out T EX (vNilO k i env) G H Q) : ∃ v, σ[i]? = some (some v) ∧ (0 ≤ sizeLine ∧ ∀ p, H p = none → rEqQ k v (.ref p) (upd H p (.lst [])) Q) := by
  unfold vNilO at o
  split at o
  · rename_i ds e
    obtain ⟨p, xs, h1, h2, h3, h4, h5⟩ := S.ow i ds e
    refine ⟨.ref p, h1, Nat.zero_le _, fun q hq => ⟨.list ds, .list [], Dq.lst (SqL.of ?_) (h5.mono (S.gh.trans (same_upd hq _))), Dq.lst (SqL.of upd_same) .nil, ?_, ?_⟩⟩
    · rw [upd_ne (ne_of_none h2 hq)]; exact h2
    · simp only [PyData.depth, PyData.depthAll]; omega
    · rw [eqv_nil]
      exact o (.bl _) G _ ⟨.of (same_upd hq _), Same.refl _, S.gh.trans (same_upd hq _), fun _ a b => absurd a b, fun n => n⟩ .bl
  · exact o.elim
theorem ve_neO (i : Nat) {x : Str} {px lp : Pos} (C : Cv X T EX B) (hN : X.N[i]? = some x := by rfl) (hv : Vis X.env.scope x := by first | exact Or.inl rfl | exact Or.inr (Or.inl rfl) | exact Or.inr (Or.inr rfl)) (hd : (x == ("__debug__" : Str)) = false := by decide) (hcd : (x == ("__classdict__" : Str)) = false := by decide) :
    VE X T EX B (.Compare (.Name x px) [.NotEq] [.List [] lp] pos) (vNilO true i) := pe_weak (pe_cmpR (op_neQ C.un) (pe_var hN hv hd hcd) (pe_lst pa_nil) (nomark _)) fun σ H Q q => by
  obtain ⟨G, env, S, o⟩ := q
  exact nil_prim .NotEq (op_neQ C.un) S o
theorem ve_eqO (i : Nat) {x : Str} {px lp : Pos} (C : Cv X T EX B) (hN : X.N[i]? = some x := by rfl) (hv : Vis X.env.scope x := by first | exact Or.inl rfl | exact Or.inr (Or.inl rfl) | exact Or.inr (Or.inr rfl)) (hd : (x == ("__debug__" : Str)) = false := by decide) (hcd : (x == ("__classdict__" : Str)) = false := by decide) :
    VE X T EX B (.Compare (.Name x px) [.Eq] [.List [] lp] pos) (vNilO false i) := pe_weak (pe_cmpR (op_eqQ C.un) (pe_var hN hv hd hcd) (pe_lst pa_nil) (nomark _)) fun σ H Q q => by
  obtain ⟨G, env, S, o⟩ := q
  exact nil_prim .Eq (op_eqQ C.un) S o
theorem vt_neO (i : Nat) {x : Str} {px lp : Pos} (C : Cv X T EX B) (hN : X.N[i]? = some x := by rfl) (hv : Vis X.env.scope x := by first | exact Or.inl rfl | exact Or.inr (Or.inl rfl) | exact Or.inr (Or.inr rfl)) (hd : (x == ("__debug__" : Str)) = false := by decide) (hcd : (x == ("__classdict__" : Str)) = false := by decide) :
    VT X T EX B (.Compare (.Name x px) [.NotEq] [.List [] lp] pos) (vNilO true i) := pt_weak (pt_cmpR (op_neQ C.un) (pe_var hN hv hd hcd) (pe_lst pa_nil) (nomark _)) fun σ H Q q => by
  obtain ⟨G, env, S, o⟩ := t2v q
  exact nil_prim .NotEq (op_neQ C.un) S o
theorem vt_eqO (i : Nat) {x : Str} {px lp : Pos} (C : Cv X T EX B) (hN : X.N[i]? = some x := by rfl) (hv : Vis X.env.scope x := by first | exact Or.inl rfl | exact Or.inr (Or.inl rfl) | exact Or.inr (Or.inr rfl)) (hd : (x == ("__debug__" : Str)) = false := by decide) (hcd : (x == ("__classdict__" : Str)) = false := by decide) :
    VT X T EX B (.Compare (.Name x px) [.Eq] [.List [] lp] pos) (vNilO false i) := pt_weak (pt_cmpR (op_eqQ C.un) (pe_var hN hv hd hcd) (pe_lst pa_nil) (nomark _)) fun σ H Q q => by
  obtain ⟨G, env, S, o⟩ := t2v q
  exact nil_prim .Eq (op_eqQ C.un) S o
/-- x += e, ints -/
theorem vs_add (i : Nat) {x : Str} {px : Pos} (C : Cv X T EX B) (he : VE X T EX B e f) (hN : X.N[i]? = some x := by rfl) (hx : Loc X.env.scope x := by first | exact .inl rfl | exact .inr rfl) (hf : X.fn x = true ∨ X.env.scope.names.lookup x = some .local := by first | exact .inl rfl | exact .inr rfl) :
    VS X T EX B (.AugAssign (.Name x px) .Add e pos) (sAdd i f) := ps_weak (ps_aug C.nd hN hx he ip_add hf) fun D σ H q => by
  obtain ⟨G, env, S, o⟩ := q
  unfold sAdd at o
  split at o
  · rename_i dx e
    obtain ⟨v, h1, h2⟩ := S.sh i _ e
    refine ⟨v, h1, G, env, S, ?_⟩
    split at o
    · rename_i y ey
      rw [ey]
      intro w G' H' s' dy
      rw [h2.intInv, dy.intInv]
      exact ⟨_, _, rfl, rfl, o G' _ H' s'.gg ((S.step s').setSh .int)⟩
    · rename_i c ey
      rw [ey]; exact fun H' z => o H' (S.st.hh.trans z)
    · exact o.elim
  · exact o.elim
/-! ### several names at once -/
/-- a value as it was made: new lists apart since H0 -/
def ORp (T : Ct) (H0 G H : Hp) (v : V) : SV → Prop
  | .sh d => Dq G v d
  | .ow ds => ∃ p xs, v = .ref p ∧ H0 p = none ∧ G p = none ∧ H p = some (.lst xs) ∧ DqAll G xs ds
  | .ob c fs => ObRp T G v c fs
  | .rg _ => False
theorem ORp.step {H0 : Hp} {v : V} {w : SV} (h : ORp T H0 G H v w) (s : Step G H G1 H1) : ORp T H0 G1 H1 v w := by
  cases w with
  | rg _ => exact h
  | sh d => exact Dq.mono h s.gg
  | ob c fs => exact ObRp.mono h s.gg
  | ow ds =>
    obtain ⟨p, xs, h1, h2, h3, h4, h5⟩ := h
    obtain ⟨h3', h4'⟩ := s.own h3 h4
    exact ⟨p, xs, h1, h2, h3', h4', h5.mono s.gg⟩
theorem out_fzO {w : SV} {P : VK} (hk : ∀ v G' H', Step G H G' H' → ORp T H G' H' v w.fz → P v H') : Out T EX (.val w) G H P := by
  refine Out.fz fun v G' H' s q => hk v G' H' s ?_
  revert q
  generalize w.fz = z
  intro q
  cases z with
  | sh d => exact q
  | ob c fs => exact q
  | ow ds => exact q.elim
  | rg _ => exact q.elim
theorem out_o {w : SV} {P : VK} (hk : ∀ v G' H', Step G H G' H' → ORp T H G' H' v w.fzR → P v H') : Out T EX (.val w) G H P := by
  cases w with
  | sh d => exact fun v G' H' s q => hk v G' H' s q
  | ob c fs => exact fun v G' H' s q => hk v G' H' s q
  | ow ds => exact fun p xs G' H' s n1 n2 ep q => hk (.ref p) G' H' s ⟨p, xs, rfl, n1, n2, ep, q⟩
  | rg r => exact out_fzO hk
/-- a name takes it; fr: no other name owns what is new since H0 -/
theorem Sim.setO {H0 : Hp} {v : V} {w : SV} {i : Nat} (S : Sim T B G env σ H) (h : ORp T H0 G H v w) (hb : SameH B.2 H0) (fr : ∀ (j : Nat) es p, env[j]? = some (some (.ow es)) → σ[j]? = some (some (.ref p)) → H0 p ≠ none)
    (frR : ∀ (j : Nat) r v F, env[j]? = some (some (.rg r)) → σ[j]? = some (some v) → RRp T G H F v r → ∀ a ∈ F, H0 a ≠ none) : Sim T B G (env.set i (some w)) (σ.set i (some v)) H := by
  cases w with
  | rg _ => exact h.elim
  | sh d => exact S.setSh h
  | ob c fs => exact S.setOb h
  | ow ds =>
    obtain ⟨p, xs, rfl, h2, h3, h4, h5⟩ := h
    exact S.setOw (hb.free h2) h3 h4 h5 (fun j es z _ w => fr j es p z w h2) fun j r v F z _ w q m => frR j r v F z w q p m h2
/-- an old thing of one's own has old places -/
theorem frR_old {H0 G0 : Hp} (S : Sim T B G0 env σ H0) (s : Step G0 H0 G H) : ∀ (j : Nat) r v F, env[j]? = some (some (.rg r)) → σ[j]? = some (some v) → RRp T G H F v r → ∀ a ∈ F, H0 a ≠ none := fun j r v F e w q a m z => newR_old S s z e w q m
theorem frR_set {w : SV} {v : V} {i : Nat} {H0 : Hp} (nr : ∀ r, w ≠ .rg r) (h : ∀ (j : Nat) r v F, env[j]? = some (some (.rg r)) → σ[j]? = some (some v) → RRp T G H F v r → ∀ a ∈ F, H0 a ≠ none) : ∀ (j : Nat) r u F, (env.set i (some w))[j]? = some (some (.rg r)) → (σ.set i (some v))[j]? = some (some u) → RRp T G H F u r → ∀ a ∈ F, H0 a ≠ none := fun j r u F e z q => by
  rcases get_set e with ⟨_, y⟩ | ⟨n, y⟩
  · cases y; exact absurd rfl (nr r)
  · rw [List.getElem?_set_ne n] at z; exact h j r u F y z q
theorem ORp.nr {H0 : Hp} {v : V} {w : SV} (h : ORp T H0 G H v w) : ∀ r, w ≠ .rg r := fun r e => by subst e; exact h
theorem fr_old {H0 G0 : Hp} (S : Sim T B G0 env σ H0) : ∀ (j : Nat) es p, env[j]? = some (some (.ow es)) → σ[j]? = some (some (.ref p)) → H0 p ≠ none := fun j es p z w => by
  obtain ⟨p', xs, h1, h2, _⟩ := S.ow j es z
  rw [w] at h1; cases h1
  rw [h2]; exact fun z => nomatch z
/-- behind one new value more -/
theorem fr_new {H0 G0 Ha Ga : Hp} {v : V} {w : SV} {i : Nat} (S : Sim T B G0 env σ H0) (s : Step G0 H0 Ga Ha) (h : ORp T H0 Ga Ha v w) : ∀ (j : Nat) es p, (env.set i (some w))[j]? = some (some (.ow es)) → (σ.set i (some v))[j]? = some (some (.ref p)) → Ha p ≠ none := fun j es p z y => by
  rcases get_set z with ⟨e1, e2⟩ | ⟨e1, e2⟩
  · subst e1
    cases e2
    obtain ⟨p', xs, rfl, h2, h3, h4, h5⟩ := h
    rcases get_set y with ⟨_, e3⟩ | ⟨e3, _⟩
    · cases e3; rw [h4]; exact fun z => nomatch z
    · exact absurd rfl e3
  · rw [List.getElem?_set_ne e1] at y
    obtain ⟨p', xs, h1, h2, _⟩ := S.ow j es e2
    rw [y] at h1; cases h1
    rw [s.hh.at h2 fun z => z]; exact fun z => nomatch z
/-- which of the values stay apart -/
@[simp] def kp (k : Bool) (v : SV) : SV := if k = true then v.fzR else v.fz
theorem out_k {k : Bool} {w : SV} {P : VK} (hk : ∀ v G' H', Step G H G' H' → ORp T H G' H' v (kp k w) → P v H') : Out T EX (.val w) G H P := by
  cases k with
  | true => exact out_o hk
  | false => exact out_fzO hk
@[simp] def sPar2 (i j : Nat) (k1 k2 : Bool) (f g : FE) : FS := fun env => (f env).s fun v => (g env).s fun w => .nx ((env.set i (some (kp k1 v))).set j (some (kp k2 w)))
@[simp] def sPar3 (i j l : Nat) (k1 k2 k3 : Bool) (f g h : FE) : FS := fun env => (f env).s fun v => (g env).s fun w => (h env).s fun u => .nx (((env.set i (some (kp k1 v))).set j (some (kp k2 w))).set l (some (kp k3 u)))
theorem seqK {k : SV → SR} {kb : Bool} (S : Sim T B G env σ H) (h : OutS T EX B ((f env).s k) G D) : rdV T EX B f σ H (fun x H1 => ∃ v G1, Step G H G1 H1 ∧ ORp T H G1 H1 x (kp kb v) ∧ Sim T B G1 env σ H1 ∧ OutS T EX B (k v) G1 D) := by
  refine seqS S h fun v ev o => ?_
  exact out_k (k := kb) fun x G' H' s q => ⟨v, G', s, q, S.step s, o.step s.gg⟩
theorem vs_par2 (i j : Nat) (k1 k2 : Bool) {x y : Str} {px py pt : Pos} {kt k' pt2} (C : Cv X T EX B) (ha : VE X T EX B a f) (hb : VE X T EX B b g) (hi : X.N[i]? = some x := by rfl) (hj : X.N[j]? = some y := by rfl) (hij : i ≠ j := by decide)
    (hx : X.env.scope.names.lookup x = some .local := by rfl) (hy : X.env.scope.names.lookup y = some .local := by rfl) (hs1 : starEach [a, b] X.env = (false, eval a X.env) :: starEach [b] X.env := by rfl) (hs2 : starEach [b] X.env = [(false, eval b X.env)] := by rfl)
    (hw : swappedStores [.Tuple [.Name x px, .Name y py] kt pt] (.Tuple [a, b] k' pt2) X.env = pure (some [x, y]) := by rfl) (hs : swapsWithSole [.Tuple [.Name x px, .Name y py] kt pt] (.Tuple [a, b] k' pt2) pos.line X.env = pure false := by rfl) :
    VS X T EX B (.Assign [.Tuple [.Name x px, .Name y py] kt pt] (.Tuple [a, b] k' pt2) pos) (sPar2 i j k1 k2 f g) := by
  refine ps_weak (ps_par C.calm C.nd hi hj hij hx hy (pa_cons ha (pa_cons hb pa_nil hs2) hs1) hw hs) fun D σ H q => ?_
  obtain ⟨G, env, S, o⟩ := q
  refine rdV_mono (seqK (kb := k1) S o) fun v H1 ⟨dv, G1, s1, q1, S1, o1⟩ => rdV_mono (seqK (kb := k2) S1 o1) fun w H2 ⟨dw, G2, s2, q2, S2, o2⟩ => ⟨v, w, rfl, ?_⟩
  exact o2 G2 _ H2 (Same.refl _) ((S2.setO (q1.step s2) S.st.hh (fr_old S) (frR_old S (s1.trans s2))).setO q2 (S.st.hh.trans s1.hh) (fr_new S s1 q1) (frR_set q1.nr (frR_old S1 s2)))
theorem fr_new2 {H0 G0 Ha Ga Hb Gb : Hp} {v v2 : V} {w w2 : SV} {i j : Nat} (S : Sim T B G0 env σ H0) (s : Step G0 H0 Ga Ha) (h : ORp T H0 Ga Ha v w) (s2 : Step Ga Ha Gb Hb) (h2 : ORp T Ha Gb Hb v2 w2) : ∀ (l : Nat) es p, ((env.set i (some w)).set j (some w2))[l]? = some (some (.ow es)) → ((σ.set i (some v)).set j (some v2))[l]? = some (some (.ref p)) → Hb p ≠ none := fun l es p z y => by
  rcases get_set z with ⟨e1, e2⟩ | ⟨e1, e2⟩
  · subst e1
    cases e2
    obtain ⟨p', xs, rfl, q2, q3, q4, q5⟩ := h2
    rcases get_set y with ⟨_, e3⟩ | ⟨e3, _⟩
    · cases e3; rw [q4]; exact fun z => nomatch z
    · exact absurd rfl e3
  · rw [List.getElem?_set_ne e1] at y
    have := fr_new S s h l es p e2 y
    intro z
    exact this (SameH.free s2.hh z)
theorem vs_par3 (i j l : Nat) (k1 k2 k3 : Bool) {x y z : Str} {px py pz pt : Pos} {kt k' pt2} (C : Cv X T EX B) (ha : VE X T EX B a f) (hb : VE X T EX B b g) (hc : VE X T EX B c h) (hi : X.N[i]? = some x := by rfl) (hj : X.N[j]? = some y := by rfl) (hl : X.N[l]? = some z := by rfl) (hij : i ≠ j := by decide) (hil : i ≠ l := by decide) (hjl : j ≠ l := by decide)
    (hx : X.env.scope.names.lookup x = some .local := by rfl) (hy : X.env.scope.names.lookup y = some .local := by rfl) (hz : X.env.scope.names.lookup z = some .local := by rfl) (hs1 : starEach [a, b, c] X.env = (false, eval a X.env) :: starEach [b, c] X.env := by rfl) (hs2 : starEach [b, c] X.env = (false, eval b X.env) :: starEach [c] X.env := by rfl) (hs3 : starEach [c] X.env = [(false, eval c X.env)] := by rfl)
    (hw : swappedStores [.Tuple [.Name x px, .Name y py, .Name z pz] kt pt] (.Tuple [a, b, c] k' pt2) X.env = pure (some [x, y, z]) := by rfl) (hs : swapsWithSole [.Tuple [.Name x px, .Name y py, .Name z pz] kt pt] (.Tuple [a, b, c] k' pt2) pos.line X.env = pure false := by rfl) :
    VS X T EX B (.Assign [.Tuple [.Name x px, .Name y py, .Name z pz] kt pt] (.Tuple [a, b, c] k' pt2) pos) (sPar3 i j l k1 k2 k3 f g h) := by
  refine ps_weak (ps_par3 C.calm C.nd hi hj hl hij hil hjl hx hy hz (pa_cons ha (pa_cons hb (pa_cons hc pa_nil hs3) hs2) hs1) hw hs) fun D σ H q => ?_
  obtain ⟨G, env, S, o⟩ := q
  refine rdV_mono (seqK (kb := k1) S o) fun v H1 ⟨dv, G1, s1, q1, S1, o1⟩ => rdV_mono (seqK (kb := k2) S1 o1) fun w H2 ⟨dw, G2, s2, q2, S2, o2⟩ => rdV_mono (seqK (kb := k3) S2 o2) fun u H3 ⟨du, G3, s3, q3, S3, o3⟩ => ⟨v, w, u, rfl, ?_⟩
  have a1 := S3.setO (i := i) ((q1.step s2).step s3) S.st.hh (fr_old S) (frR_old S ((s1.trans s2).trans s3))
  have a2 := a1.setO (i := j) (q2.step s3) (S.st.hh.trans s1.hh) (fr_new S s1 q1) (frR_set q1.nr (frR_old S1 (s2.trans s3)))
  exact o3 G3 _ H3 (Same.refl _) (a2.setO (i := l) q3 ((S.st.hh.trans s1.hh).trans s2.hh) (fr_new2 S s1 q1 s2 q2) (frR_set q2.nr (frR_set q1.nr (frR_old S2 s3))))
/-- a, b = e by a target (a tuple that is made, or comes) -/
@[simp] def sUnp (t : Tg) (f : FE) : FS := fun env => (f env).s fun v => match v with
  | .sh d => (match t d env with
    | some e => .nx e
    | none => .stuck)
  | _ => .stuck
theorem vs_unp {gt : TG} {is : List Nat} {tt : Tg} (he : VE X T EX B e f) (hr : TgRun T B gt is tt) (hg : PG X tg gt) (hs : swapsWithSole [tg] e pos.line X.env = pure false := by rfl) (hw : swappedStores [tg] e X.env = pure none := by rfl) (h1 : (assignEach [tg] X.env).map (fun x => x.2) = [assign tg X.env] := by rfl) :
    VS X T EX B (.Assign [tg] e pos) (sUnp tt f) := ps_weak (ps_asg he hg hs hw h1) fun D σ H q => by
  obtain ⟨G, env, S, o⟩ := q
  refine seqS S o fun v _ o => ?_
  cases v with
  | ow _ => exact o.elim
  | ob _ _ => exact o.elim
  | rg _ => exact o.elim
  | sh d =>
    dsimp only at o
    split at o
    · rename_i e' ee
      intro x G' H' s q
      refine hr (S.step s) q ee fun σ' S' _ => o G' σ' H' s.gg S'
    · exact o.elim
/-! ### an error is raised -/
@[simp] def sRaise (c : Str) : FS := fun _ => .err c
theorem vs_raise {x m : Str} {j : Nat} {C : Addr} {bmB : List Value} {Bn newId initId : String} {p1 p3 : Pos} (hc : X.calm = true) (tk : Takes X (fun cls d _ H => EX cls d H)) (F : ExcBaseFacts Bn newId initId bmB) (q : PySem.W.excIn X.K C bmB newId = true) (gC : X.mg x = some (.ref C)) (kC : PySem.W.keepIn X.K (.ref C) = true) (r : Raises X (.ref C)) (hg : Gl X x) (ec : T.er x = C)
    (hdb : (x == ("__debug__" : Str)) = false := by decide) : VS X T EX B (.Raise (some (.Call (.Name x p1) [.Constant (.str m) j p2] [] p3)) none pos) (sRaise x) := by
  refine ps_weak (ps_raise hc tk (pmk_own F q gC kC r hg hdb)) fun D σ H q => ?_
  obtain ⟨G, env, S, o⟩ := q
  have z := o H S.st.hh
  rw [ec] at z
  exact z
end
/-! ### a def keeps its promise -/
@[simp] def runB (n : Nat) (s : FS) (as : List SV) : R := match s (as.map some ++ List.replicate (n - as.length) none) with
  | .rt v => .val v
  | .nx _ => .val (.sh .none)
  | .err c => .err c
  | .stuck => .stuck
section
variable {P : Program} {w : World} {K : PySem.W.Frag} {mg : Str → Option Value} {base : Heap} {T : Ct}
theorem sim_start {G H : Hp} {vs : List V} {as : List SV} (n : Nat) (gh : Same G H) (nb : NoMem G) (mo : ∀ a, T.me = some a → ∃ o, H a = some o ∧ Mem o) (r : VRpAll T G vs as) (N : List Str) (hN : N.length = n) : Sim T (G, H) G (as.map some ++ List.replicate (n - as.length) none) (start N vs) H := by
  have hl := vrp_len r
  have key : ∀ (i : Nat) (a : SV), (as.map some ++ List.replicate (n - as.length) none)[i]? = some (some a) → ∃ v, (start N vs)[i]? = some (some v) ∧ VRp T G v a := by
    intro i a h
    have hi : i < as.length := by
      by_cases hi : i < as.length
      · exact hi
      · rw [List.getElem?_append_right (by rw [List.length_map]; omega)] at h
        obtain ⟨_, h2⟩ := List.getElem?_eq_some_iff.mp h
        rw [List.getElem_replicate] at h2
        cases h2
    rw [List.getElem?_append_left (by rw [List.length_map]; exact hi), List.getElem?_map] at h
    obtain ⟨a', h1, h2⟩ := Option.map_eq_some_iff.mp h
    cases h2
    have : ∀ {vs : List V} {as : List SV} {i : Nat} {a : SV}, VRpAll T G vs as → as[i]? = some a → ∃ v, vs[i]? = some v ∧ VRp T G v a := by
      intro vs as i a r h
      induction r generalizing i with
      | nil => simp at h
      | cons x t ih =>
        cases i with
        | zero => simp at h; subst h; exact ⟨_, rfl, x⟩
        | succ i => exact ih (by simpa using h)
    obtain ⟨v, h3, h4⟩ := this r h1
    refine ⟨v, ?_, h4⟩
    unfold L2.start
    rw [List.getElem?_append_left (by rw [List.length_map, hl]; exact hi), List.getElem?_map, h3]
    rfl
  refine ⟨Step.refl gh, nb, mo, ?_, fun i d h => key i _ h, fun i c fs h => key i _ h, fun i ds h => ?_, fun i j ds es p h _ _ _ => ?_, fun i r h => ?_⟩
  · unfold L2.start
    simp only [List.length_append, List.length_map, List.length_replicate]
    omega
  · obtain ⟨v, _, z⟩ := key i _ h
    exact z.elim
  · obtain ⟨v, _, z⟩ := key i _ h
    exact z.elim
  · obtain ⟨v, _, z⟩ := key i _ h
    exact z.elim
/-- a body's context -/
theorem fn_ok {x qual : Str} {st : Stmt} {f : Addr} {fd : FuncData} {N ps : List Str} {k : Nat} {s : FS} (F : Fun K x qual st f fd) (S : FnScope N ps (defScope st))
    (hb : ∀ (cdv : Value) (A : Around) (outer : List Env) (s0 : Shared) (H : Hp) (E : XK) (B : Hp × Hp), Room k (A.deeper (PyProof.Rows.envOfC qual (defScope st) s0.heap.objs.size f cdv)) →
      Cv (cxOf (L2.CX P w) P w K mg base N qual (defScope st) f cdv A outer s0 H E) T E B →
      PassesOwn (model P w) (A.deeper (PyProof.Rows.envOfC qual (defScope st) s0.heap.objs.size f cdv)) (PyProof.Rows.envOfC qual (defScope st) s0.heap.objs.size f cdv) (cxOf (L2.CX P w) P w K mg base N qual (defScope st) f cdv A outer s0 H E).xe →
      Takes (cxOf (L2.CX P w) P w K mg base N qual (defScope st) f cdv A outer s0 H E) (fun cls d _ H => E cls d H) →
      VSs (cxOf (L2.CX P w) P w K mg base N qual (defScope st) f cdv A outer s0 H E) T E B (defBody st) s) :
    FnGd P w K mg base (L2.CX P w) (k + 1) f fd ps (spV T ps.length (runB N.length s)) := by
  refine gd_mk F S (fun vs H Q E h => ?_) (fun cdv A outer s0 H vs Q E hq hr h => ?_)
  · obtain ⟨G, as, gh, _, _, r, hl, _⟩ := h
    rw [vrp_len r, hl]
  obtain ⟨G, as, gh, nb, mo, r, hl, o⟩ := h
  have tk : Takes (cxOf (L2.CX P w) P w K mg base N qual (defScope st) f cdv A outer s0 H E) (fun cls d _ H => E cls d H) := takes_of rfl rfl rfl rfl
  refine ⟨_, hb cdv A outer s0 H E (G, H) hr ⟨rfl, S.nd, passes_call tk fun _ _ _ _ z => z, ?_, hq⟩ (passes_of rfl) tk, G, _, sim_start N.length gh nb mo r N rfl, ?_⟩
  · have := hr.un
    show (A.deeper (PyProof.Rows.envOfC qual (defScope st) s0.heap.objs.size f cdv)).units + 150 < cLine
    omega
  · unfold runB at o
    revert o
    cases s (as.map some ++ List.replicate (N.length - as.length) none) with
    | nx e => exact fun o G' σ' H' sg S' => o .non G' H' S'.st .non
    | rt v => exact fun o => o
    | err c => exact fun o => o
    | stuck => exact fun o => o
end
end VL
namespace VL
open PySem L2
/-! ### the program's top -/
/-- a class's address by its name -/
def adOf (mg : Str → Option Value) (x : Str) : Addr := match mg x with
  | some (.ref C) => C
  | _ => 0
theorem adOf_eq {mg : Str → Option Value} {x : Str} {C : Addr} (h : mg x = some (.ref C)) : adOf mg x = C := by
  unfold adOf; rw [h]
/-- the classes of this program: Leans, Slants, Leaned; the errors by their names -/
def clsName : Nat → Str
  | 0 => "Leans"
  | 1 => "Slants"
  | _ => "Leaned"
def clsFlds : Nat → List Str
  | 0 => []
  | 1 => ["way"]
  | _ => ["heap", "ways"]
def ctOf (mg : Str → Option Value) : Ct := ⟨fun c => adOf mg (clsName c), clsFlds, adOf mg, 0, none⟩
/-- a def of the text, its name, how its arguments bind -/
def Df (K : PySem.W.Frag) (mg : Str → Option Value) (x q : Str) (st : Stmt) (ps : List Str) : Prop := ∃ f fd, Fun K q q st f fd ∧ mg x = some (.ref f) ∧ Binds K fd ps []
def Fn (P : Program) (w : World) (K : PySem.W.Frag) (mg : Str → Option Value) (base : Heap) (T : Ct) (k : Nat) (x : Str) (n : Nat) (m : List SV → R) : Prop :=
  ∃ f fd ps, FnGd P w K mg base (L2.CX P w) k f fd ps (spV T n m) ∧ mg x = some (.ref f) ∧ PySem.W.keepIn K (.ref f) = true ∧ Binds K fd ps []
abbrev veMro : List Value := [.type "ValueError", .type "Exception", .type "BaseException", .type "object"]
structure Er (K : PySem.W.Frag) (mg : Str → Option Value) (T : Ct) (x : Str) : Prop where
  ex : ∃ C, mg x = some (.ref C) ∧ T.er x = C ∧ PySem.W.excIn K C veMro "ValueError.__new__" = true ∧ PySem.W.keepIn K (.ref C) = true ∧ PySem.W.subIn K (.ref C) (.type "BaseException") = some true ∧ PySem.W.typeIn K (.ref C) = some (.type "type")
/-- a body in its context -/
def Bd (P : Program) (w : World) (K : PySem.W.Frag) (mg : Str → Option Value) (base : Heap) (T : Ct) (k : Nat) (N : List Str) (q : Str) (st : Stmt) (s : FS) : Prop :=
  ∀ (f : Addr) (cdv : Value) (A : Around) (outer : List Env) (s0 : Shared) (H : Hp) (E : XK) (B : Hp × Hp), Room k (A.deeper (PyProof.Rows.envOfC q (defScope st) s0.heap.objs.size f cdv)) →
      Cv (cxOf (L2.CX P w) P w K mg base N q (defScope st) f cdv A outer s0 H E) T E B →
      PassesOwn (model P w) (A.deeper (PyProof.Rows.envOfC q (defScope st) s0.heap.objs.size f cdv)) (PyProof.Rows.envOfC q (defScope st) s0.heap.objs.size f cdv) (cxOf (L2.CX P w) P w K mg base N q (defScope st) f cdv A outer s0 H E).xe →
      Takes (cxOf (L2.CX P w) P w K mg base N q (defScope st) f cdv A outer s0 H E) (fun cls d _ H => E cls d H) →
      VSs (cxOf (L2.CX P w) P w K mg base N q (defScope st) f cdv A outer s0 H E) T E B (defBody st) s
/-- turns of a while -/
def WF : Nat := 300
section
variable {P : Program} {w : World} {K : PySem.W.Frag} {mg : Str → Option Value} {base : Heap} {T : Ct}
theorem fn_mk {x q : Str} {st : Stmt} {N ps : List Str} {k : Nat} {s : FS} (d : Df K mg x q st ps) (S : FnScope N ps (defScope st)) (hb : Bd P w K mg base T k N q st s) : Fn P w K mg base T (k + 1) x ps.length (runB N.length s) := by
  obtain ⟨f, fd, F, hm, hbi⟩ := d
  exact ⟨f, fd, ps, fn_ok F S fun cdv A outer s0 H E B hr C po tk => hb f cdv A outer s0 H E B hr C po tk, hm, F.kp, hbi⟩
theorem fn_zero {x q : Str} {st : Stmt} {ps : List Str} {n : Nat} {m : List SV → R} (d : Df K mg x q st ps) (h : m = fun _ => .stuck) : Fn P w K mg base T 0 x n m := by
  obtain ⟨f, fd, F, hm, hbi⟩ := d
  subst h
  have no : ∀ vs H Q E, ¬ spV T n (fun _ => .stuck) vs H Q E := fun vs H Q E ⟨_, _, _, _, _, _, _, o⟩ => o
  exact ⟨f, fd, ps, ⟨fun vs H Q E h => absurd h (no vs H Q E), fun A outer s H args us vs Q E _ _ _ _ _ h => absurd h (no vs H Q E)⟩, hm, F.kp, hbi⟩
end
section
variable {X : Cx} {T : Ct} {EX : XK} {B : Hp × Hp} {e : Expr} {es : List Expr} {pos p p2 : Pos} {fs : List FE}
theorem ve_callF {x : Str} {n k : Nat} {m : List SV → R} (F : Fn X.prog X.w X.K X.mg X.base T k x n m) (hr : Room k X.A) (hg : Gl X x)
    (C : Cv X T EX B) (ha : VA X T EX B (e :: es) fs) (hd : (x == ("__debug__" : Str)) = false := by decide) (hs : starEach (e :: es) X.env = (false, eval e X.env) :: starEach es X.env := by rfl) (hpl : ((backTo pos (starEach es X.env)).any fun z => z.1) = false := by rfl) :
    VE X T EX B (.Call (.Name x p) (e :: es) [] pos) (calF n m fs) := by
  obtain ⟨f, fd, ps, F, hm, hk, hb⟩ := F
  exact ve_call F hr hg hm hk hb C ha hd hs hpl
theorem Cv.blk (C : Cv X T EX B) {s : Shared} {H : Hp} {scope : Scope} {cenv : Env} {fp : List Addr} : Cv (X.blk s H scope cenv fp) T E0 B := ⟨C.calm, C.nd, passL, C.un, C.gd⟩
theorem vs_raiseE {x m : Str} {j : Nat} {p1 p3 : Pos} (C : Cv X T EX B) (tk : Takes X (fun cls d _ H => EX cls d H)) (er : Er X.K X.mg T x) (hg : Gl X x) (hdb : (x == ("__debug__" : Str)) = false := by decide) :
    VS X T EX B (.Raise (some (.Call (.Name x p1) [.Constant (.str m) j p2] [] p3)) none pos) (sRaise x) := by
  obtain ⟨D, h1, h2, h3, h4, h5, h6⟩ := er.ex
  exact vs_raise C.calm tk PySem.F.excBase_ValueError h3 h1 h4 (raises_own h5 h6) hg h2 hdb
end
end VL
namespace VL
open PySem L2
/-! ### data without a list within -/
mutual
@[simp] def noList : D → Bool
  | .list _ => false
  | .tuple ds => noLists ds
  | .dict _ => false
  | .none | .bool _ | .int _ | .str _ => true
@[simp] def noLists : List D → Bool
  | [] => true
  | d :: r => noList d && noLists r
end
/-- a heap without one place -/
def hid (G : Hp) (p : Addr) : Hp := fun a => if a = p then none else G a
theorem hid_ne {G : Hp} {p a : Addr} (h : a ≠ p) : hid G p a = G a := if_neg h
theorem hid_same {G : Hp} {p : Addr} : hid G p p = none := if_pos rfl
theorem hid_sqT {G : Hp} {p a : Addr} {xs ys : List V} (h : G p = some (.lst ys)) (s : SqT [] G a xs) : SqT [] (hid G p) a xs := by
  rcases s with (s | ⟨o, s⟩) | ⟨o, its, n, hk, _⟩
  · exact .inl (.inl (by rw [hid_ne (ne_of s h (by intro z; cases z))]; exact s))
  · exact .inl (.inr ⟨o, by rw [hid_ne (ne_of s h (by intro z; cases z))]; exact s⟩)
  · cases hk
mutual
theorem hid_dp {G : Hp} {p : Addr} {ys : List V} (h : G p = some (.lst ys)) : ∀ (d : D) (v : V), noList d = true → Dp [] G v d → Dp [] (hid G p) v d
  | .none, _, _, q => by cases q; exact .non
  | .bool b, _, _, q => by cases q; exact .bl b
  | .int i, _, _, q => by cases q; exact .int i
  | .str x, _, _, q => by cases q; exact .str x
  | .list _, _, n, _ => by simp only [noList] at n; cases n
  | .dict _, _, n, _ => by simp only [noList] at n; cases n
  | .tuple ds, _, n, q => by
    cases q with
    | tup s a =>
      simp only [noList] at n
      exact .tup (hid_sqT h s) (hid_dpAll h ds _ n a)
theorem hid_dpAll {G : Hp} {p : Addr} {ys : List V} (h : G p = some (.lst ys)) : ∀ (ds : List D) (vs : List V), noLists ds = true → DpAll [] G vs ds → DpAll [] (hid G p) vs ds
  | [], _, _, q => by cases q; exact .nil
  | d :: r, _, n, q => by
    cases q with
    | cons a b =>
      simp only [noLists, Bool.and_eq_true] at n
      exact .cons (hid_dp h d _ n.1 a) (hid_dpAll h r _ n.2 b)
end
/-! ### .. or too small to hold it -/
mutual
def dsz : D → Nat
  | .list ds => 1 + dszs ds
  | .tuple ds => 1 + dszs ds
  | .dict _ => 1
  | .none | .bool _ | .int _ | .str _ => 1
def dszs : List D → Nat
  | [] => 0
  | d :: r => dsz d + dszs r
end
theorem sqL_one {G : Hp} {a : Addr} {xs ys : List V} (h : SqL [] G a xs) (h' : SqL [] G a ys) : xs = ys := by
  rcases h with (h | ⟨o, h⟩) | ⟨o, its, n, hk, _⟩
  · rcases h' with (h' | ⟨o', h'⟩) | ⟨o', its', n', hk', _⟩
    · rw [h] at h'; cases h'; rfl
    · rw [h] at h'; cases h'
    · cases hk'
  · rcases h' with (h' | ⟨o', h'⟩) | ⟨o', its', n', hk', _⟩
    · rw [h] at h'; cases h'
    · rw [h] at h'; cases h'; rfl
    · cases hk'
  · cases hk
theorem sqT_one {G : Hp} {a : Addr} {xs ys : List V} (h : SqT [] G a xs) (h' : SqT [] G a ys) : xs = ys := by
  rcases h with (h | ⟨o, h⟩) | ⟨o, its, n, hk, _⟩
  · rcases h' with (h' | ⟨o', h'⟩) | ⟨o', its', n', hk', _⟩
    · rw [h] at h'; cases h'; rfl
    · rw [h] at h'; cases h'
    · cases hk'
  · rcases h' with (h' | ⟨o', h'⟩) | ⟨o', its', n', hk', _⟩
    · rw [h] at h'; cases h'
    · rw [h] at h'; cases h'; rfl
    · cases hk'
  · cases hk
theorem sq_two {G : Hp} {a : Addr} {xs ys : List V} (h : SqL [] G a xs) (h' : SqT [] G a ys) : False := by
  rcases h with (h | ⟨o, h⟩) | ⟨o, its, n, hk, _⟩
  · rcases h' with (h' | ⟨o', h'⟩) | ⟨o', its', n', hk', _⟩
    · rw [h] at h'; cases h'
    · rw [h] at h'; cases h'
    · cases hk'
  · rcases h' with (h' | ⟨o', h'⟩) | ⟨o', its', n', hk', _⟩
    · rw [h] at h'; cases h'
    · rw [h] at h'; cases h'
    · cases hk'
  · cases hk
mutual
theorem dp_one {G : Hp} : ∀ (d e : D) (v : V), Dp [] G v d → Dp [] G v e → d = e
  | .none, _, _, h, h' => by cases h; cases h'; rfl
  | .bool _, _, _, h, h' => by cases h; cases h'; rfl
  | .int _, _, _, h, h' => by cases h; cases h'; rfl
  | .str _, _, _, h, h' => by cases h; cases h'; rfl
  | .dict _, _, _, h, _ => by cases h
  | .list ds, e, _, h, h' => by
    cases h with
    | lst s a =>
      cases h' with
      | lst s' a' =>
        have := sqL_one s s'
        subst this
        rw [dpAll_one ds _ _ a a']
      | tup s' a' => exact (sq_two s s').elim
  | .tuple ds, e, _, h, h' => by
    cases h with
    | tup s a =>
      cases h' with
      | tup s' a' =>
        have := sqT_one s s'
        subst this
        rw [dpAll_one ds _ _ a a']
      | lst s' a' => exact (sq_two s' s).elim
theorem dpAll_one {G : Hp} : ∀ (ds es : List D) (vs : List V), DpAll [] G vs ds → DpAll [] G vs es → ds = es
  | [], _, _, h, h' => by cases h; cases h'; rfl
  | d :: r, _, _, h, h' => by
    cases h with
    | cons a b =>
      cases h' with
      | cons a' b' => rw [dp_one d _ _ a a', dpAll_one r _ _ b b']
end
mutual
theorem hid_dz {G : Hp} {p : Addr} {ys : List V} {es : List D} (h : G p = some (.lst ys)) (hy : DpAll [] G ys es) : ∀ (d : D) (v : V), dsz d < 1 + dszs es → Dp [] G v d → Dp [] (hid G p) v d
  | .none, _, _, q => by cases q; exact .non
  | .bool b, _, _, q => by cases q; exact .bl b
  | .int i, _, _, q => by cases q; exact .int i
  | .str x, _, _, q => by cases q; exact .str x
  | .dict _, _, _, q => by cases q
  | .tuple ds, _, n, q => by
    cases q with
    | tup s a =>
      simp only [dsz] at n
      exact .tup (hid_sqT h s) (hid_dzAll h hy ds _ (by omega) a)
  | .list ds, _, n, q => by
    cases q with
    | lst s a =>
      rename_i b xs
      simp only [dsz] at n
      have ne : b ≠ p := fun z => by
        subst z
        have e := sqL_one s (SqL.of h)
        subst e
        rw [dpAll_one _ _ _ a hy] at n
        omega
      refine .lst ?_ (hid_dzAll h hy ds _ (by omega) a)
      rcases s with (s | ⟨o, s⟩) | ⟨o, its, n, hk, _⟩
      · exact .inl (.inl (by rw [hid_ne ne]; exact s))
      · exact .inl (.inr ⟨o, by rw [hid_ne ne]; exact s⟩)
      · cases hk
theorem hid_dzAll {G : Hp} {p : Addr} {ys : List V} {es : List D} (h : G p = some (.lst ys)) (hy : DpAll [] G ys es) : ∀ (ds : List D) (vs : List V), dszs ds < 1 + dszs es → DpAll [] G vs ds → DpAll [] (hid G p) vs ds
  | [], _, _, q => by cases q; exact .nil
  | d :: r, _, n, q => by
    cases q with
    | cons a b =>
      simp only [dszs] at n
      exact .cons (hid_dz h hy d _ (by omega) a) (hid_dzAll h hy r _ (by omega) b)
end
/-- .. each of them is -/
def allSm (es ds : List D) : Bool := ds.all fun d => decide (dsz d < 1 + dszs es)
theorem hid_dzEach {G : Hp} {p : Addr} {ys : List V} {es : List D} (h : G p = some (.lst ys)) (hy : DpAll [] G ys es) : ∀ (ds : List D) (vs : List V), allSm es ds = true → DpAll [] G vs ds → DpAll [] (hid G p) vs ds
  | [], _, _, q => by cases q; exact .nil
  | d :: r, _, n, q => by
    cases q with
    | cons a b =>
      simp only [allSm, List.all_cons, Bool.and_eq_true, decide_eq_true_eq] at n
      exact .cons (hid_dz h hy d _ n.1 a) (hid_dzEach h hy r _ n.2 b)
/-! ### parts that are never changed -/
mutual
/-- no list within them -/
@[simp] def RD.nl : RD → Bool
  | .dat d => noList d
  | .lst rs => RD.nls rs
  | .tup rs => RD.nls rs
  | .ins _ rs => RD.nls rs
  | .jk => true
  | .dic _ => false
@[simp] def RD.nls : List RD → Bool
  | [] => true
  | r :: rs => RD.nl r && RD.nls rs
end
mutual
/-- no tuple of one's own -/
@[simp] def RD.nt : RD → Bool
  | .dat _ => true
  | .lst rs => RD.nts rs
  | .tup _ => false
  | .ins _ rs => RD.nts rs
  | .jk => true
  | .dic _ => false
@[simp] def RD.nts : List RD → Bool
  | [] => true
  | r :: rs => RD.nt r && RD.nts rs
end
mutual
theorem RRp.leaf {T : Ct} {G G2 H : Hp} (k : ∀ d v, noList d = true → Dq G v d → Dq G2 v d) : ∀ (r : RD) (S : List Addr) (v : V), RRp T G H S v r → r.nl = true → RRp T G2 H S v r
  | .dat d, _, _, .dat h, n => .dat (k d _ (by simpa using n) h)
  | .jk, _, _, .jk, _ => .jk
  | .lst rs, _, _, .lst h a, n => .lst h (RRpAll.leaf k rs _ _ a (by simpa using n))
  | .tup rs, _, _, .tup h a, n => .tup h (RRpAll.leaf k rs _ _ a (by simpa using n))
  | .ins c rs, _, _, .ins h h2 l a, n => .ins h h2 l (RRpAll.leaf k rs _ _ a (by simpa using n))
  | .dic _, _, _, _, n => by simp only [RD.nl] at n; cases n
theorem RRpAll.leaf {T : Ct} {G G2 H : Hp} (k : ∀ d v, noList d = true → Dq G v d → Dq G2 v d) : ∀ (rs : List RD) (S : List Addr) (vs : List V), RRpAll T G H S vs rs → RD.nls rs = true → RRpAll T G2 H S vs rs
  | [], _, _, .nil, _ => .nil
  | r :: rs, _, _, .cons h a, n => by
    simp only [RD.nls, Bool.and_eq_true] at n
    exact .cons (RRp.leaf k r _ _ h n.1) (RRpAll.leaf k rs _ _ a n.2)
end
def noTup : HO → Prop
  | .tup _ => False
  | .frz _ _ => False
  | _ => True
mutual
theorem RRp.nots {T : Ct} {G H : Hp} : ∀ (r : RD) (S : List Addr) (v : V), RRp T G H S v r → r.nt = true → ∀ a ∈ S, ∃ o, H a = some o ∧ noTup o
  | .dat _, _, _, .dat _, _, a, m => absurd m List.not_mem_nil
  | .jk, _, _, .jk, _, a, m => absurd m List.not_mem_nil
  | .lst rs, _, _, .lst h q, n, a, m => by
    rcases List.mem_cons.mp m with rfl | m
    · exact ⟨_, h, trivial⟩
    · exact RRpAll.nots rs _ _ q (by simpa using n) a m
  | .tup rs, _, _, _, n, _, _ => by simp only [RD.nt] at n; cases n
  | .dic rs, _, _, _, n, _, _ => by simp only [RD.nt] at n; cases n
  | .ins c rs, _, _, .ins h h2 l q, n, a, m => by
    rcases List.mem_cons.mp m with rfl | m
    · exact ⟨_, h, trivial⟩
    rcases List.mem_cons.mp m with rfl | m
    · exact ⟨_, h2, trivial⟩
    · exact RRpAll.nots rs _ _ q (by simpa using n) a m
theorem RRpAll.nots {T : Ct} {G H : Hp} : ∀ (rs : List RD) (S : List Addr) (vs : List V), RRpAll T G H S vs rs → RD.nts rs = true → ∀ a ∈ S, ∃ o, H a = some o ∧ noTup o
  | [], _, _, .nil, _, a, m => absurd m List.not_mem_nil
  | r :: rs, _, _, .cons h q, n, a, m => by
    simp only [RD.nts, Bool.and_eq_true] at n
    rcases List.mem_append.mp m with m | m
    · exact RRp.nots r _ _ h n.1 a m
    · exact RRpAll.nots rs _ _ q n.2 a m
end
open Classical in
noncomputable def hidS (G : Hp) (S : List Addr) : Hp := fun a => if a ∈ S then none else G a
theorem hidS_in {G : Hp} {S : List Addr} {a : Addr} (h : a ∈ S) : hidS G S a = none := if_pos h
theorem hidS_out {G : Hp} {S : List Addr} {a : Addr} (h : a ∉ S) : hidS G S a = G a := if_neg h
theorem hidS_sqT {G : Hp} {S : List Addr} {a : Addr} {xs : List V} (h : ∀ a ∈ S, ∃ o, G a = some o ∧ noTup o) (s : SqT [] G a xs) : SqT [] (hidS G S) a xs := by
  have ne : ∀ o, G a = some o → ¬ noTup o → a ∉ S := fun o e n m => by
    obtain ⟨o', e', z⟩ := h a m
    rw [e] at e'; cases e'; exact n z
  rcases s with (s | ⟨o, s⟩) | ⟨o, its, n, hk, _⟩
  · exact .inl (.inl (by rw [hidS_out (ne _ s fun z => z)]; exact s))
  · exact .inl (.inr ⟨o, by rw [hidS_out (ne _ s fun z => z)]; exact s⟩)
  · cases hk
mutual
theorem hidS_dp {G : Hp} {S : List Addr} (h : ∀ a ∈ S, ∃ o, G a = some o ∧ noTup o) : ∀ (d : D) (v : V), noList d = true → Dp [] G v d → Dp [] (hidS G S) v d
  | .none, _, _, q => by cases q; exact .non
  | .bool b, _, _, q => by cases q; exact .bl b
  | .int i, _, _, q => by cases q; exact .int i
  | .str x, _, _, q => by cases q; exact .str x
  | .list _, _, n, _ => by simp only [noList] at n; cases n
  | .dict _, _, n, _ => by simp only [noList] at n; cases n
  | .tuple ds, _, n, q => by
    cases q with
    | tup s a =>
      simp only [noList] at n
      exact .tup (hidS_sqT h s) (hidS_dpAll h ds _ n a)
theorem hidS_dpAll {G : Hp} {S : List Addr} (h : ∀ a ∈ S, ∃ o, G a = some o ∧ noTup o) : ∀ (ds : List D) (vs : List V), noLists ds = true → DpAll [] G vs ds → DpAll [] (hidS G S) vs ds
  | [], _, _, q => by cases q; exact .nil
  | d :: r, _, n, q => by
    cases q with
    | cons a b =>
      simp only [noLists, Bool.and_eq_true] at n
      exact .cons (hidS_dp h d _ n.1 a) (hidS_dpAll h r _ n.2 b)
end
theorem flat_dp {G G2 : Hp} : ∀ (d : D) (v : V), flatD d = true → Dp [] G v d → Dp [] G2 v d
  | .none, _, _, q => by cases q; exact .non
  | .bool b, _, _, q => by cases q; exact .bl b
  | .int i, _, _, q => by cases q; exact .int i
  | .str x, _, _, q => by cases q; exact .str x
  | .list _, _, n, _ => by simp only [flatD] at n; cases n
  | .dict _, _, n, _ => by simp only [flatD] at n; cases n
  | .tuple _, _, n, _ => by simp only [flatD] at n; cases n
theorem flat_dpAll {G G2 : Hp} : ∀ (ds : List D) (vs : List V), ds.all flatD = true → DpAll [] G vs ds → DpAll [] G2 vs ds
  | [], _, _, q => by cases q; exact .nil
  | d :: r, _, n, q => by
    cases q with
    | cons a b =>
      simp only [List.all_cons, Bool.and_eq_true] at n
      exact .cons (flat_dp d _ n.1 a) (flat_dpAll r _ n.2 b)
/-! ### an expression that looks at a list of one's own and keeps nothing of it -/
@[simp] def vBor (i : Nat) (f : FE) : FE := fun env => match env[i]? with
  | some (some (.ow ds)) => (match f (env.set i (some (.sh (.list ds)))) with
    | .val (.sh d) => if noList d = true ∨ dsz d < 1 + dszs ds then .val (.sh d) else .stuck
    | .val (.ow es) => if noLists es = true ∨ dszs es < 1 + dszs ds ∨ allSm ds es = true then .val (.ow es) else .stuck
    | .val (.ob _ _) => .stuck
    | .val (.rg r) => if r.nl = true then .val (.rg r) else .stuck
    | .err c => .err c
    | .stuck => .stuck)
  | some (some (.rg r)) => (match r.fzv with
    | some w => (match f (env.set i (some w)) with
      | .val (.sh d) => if flatD d = true ∨ (noList d = true ∧ r.nt = true) then .val (.sh d) else .stuck
      | .val (.ow es) => if es.all flatD = true ∨ (noLists es = true ∧ r.nt = true) then .val (.ow es) else .stuck
      | .val (.ob _ _) => .stuck
      | .val (.rg q) => if q.nl = true ∧ r.nt = true then .val (.rg q) else .stuck
      | .err c => .err c
      | .stuck => .stuck)
    | none => f env)
  | _ => f env
section
variable {X : Cx} {T : Ct} {EX : XK} {B : Hp × Hp} {e a b c o tg : Expr} {es : List Expr} {pos p p2 : Pos} {f g h : FE} {fs : List FE} {G H G1 H1 : Hp} {Q : VK} {st : Stmt} {sts : List Stmt} {s t : FS} {D : Ends} {σ : L2.St} {env : VEnv}
theorem hidS_step {F : List Addr} {G' H' : Hp} (hg : ∀ a ∈ F, G a = none) (k : ∀ a ∈ F, ∃ o, H a = some o ∧ ¬ Mem o) (s : Step (addS G H F) H G' H') : Step G H (hidS G' F) H' ∧ ∀ a ∈ F, G' a = H a := by
  refine ⟨⟨s.hh, fun b u q => ?_, fun b u q => ?_, fun b h1 h2 => ?_, fun n b u q => ?_⟩, fun a m => ?_⟩
  · have ne : b ∉ F := fun m => by rw [hg b m] at q; cases q
    rw [hidS_out ne]
    exact s.gg b u (by rw [addS_out ne]; exact q)
  · have ne : b ∉ F := fun m => by rw [hidS_in m] at q; cases q
    rw [hidS_out ne] at q
    exact s.gh b u q
  · have ne : b ∉ F := fun m => h2 (hidS_in m)
    rw [hidS_out ne] at h2
    exact s.nw b (by rw [addS_out ne]; exact h1) h2
  · have ne : b ∉ F := fun m => by rw [hidS_in m] at q; cases q
    rw [hidS_out ne] at q
    refine s.nm (fun c v r => ?_) b u q
    by_cases m : c ∈ F
    · rw [addS_in m] at r
      obtain ⟨o, e, z⟩ := k c m
      rw [r] at e; cases e; exact z
    · rw [addS_out m] at r; exact n c v r
  · obtain ⟨o, e, z⟩ := k a m
    rw [e]
    exact s.gg a o (by rw [addS_in m]; exact e)
theorem Sim.frzR (S : Sim T B G env σ H) {i : Nat} {r : RD} {w : SV} (hi : env[i]? = some (some (.rg r))) (hw : r.fzv = some w) : ∃ v F, σ[i]? = some (some v) ∧ RgAt T B G H F v r ∧ Sim T B (addS G H F) (env.set i (some w)) σ H := by
  obtain ⟨u, v, F, e1, e2, e3⟩ := S.rg i r hi
  have hl : i < σ.length := S.lt hi
  have hs : σ = σ.set i (some v) := by
    refine List.ext_getElem? fun j => ?_
    by_cases z : i = j
    · subst z; rw [List.getElem?_set_self hl]; exact e1
    · rw [List.getElem?_set_ne z]
  have k := RRp.at r F v e2.rp
  have sg : Same G (addS G H F) := addS_same fun a m => (e2.nw a m).1
  have S1 : Sim T B (addS G H F) (env.set i none) σ H := by
    refine ⟨S.st.frzS e2.nw k, S.nb, S.me, by rw [List.length_set, S.len], fun j d q => ?_, fun j c fs q => ?_, fun j es q => ?_, fun j k es fs a q1 q2 q3 q4 => ?_, fun j r' q => ?_⟩
    · rcases get_set q with ⟨z, y⟩ | ⟨z, y⟩
      · cases y
      · obtain ⟨v, h1, h2⟩ := S.sh j d y; exact ⟨v, h1, h2.mono sg⟩
    · rcases get_set q with ⟨z, y⟩ | ⟨z, y⟩
      · cases y
      · obtain ⟨v, h1, h2⟩ := S.ob j c fs y; exact ⟨v, h1, h2.mono sg⟩
    · rcases get_set q with ⟨z, y⟩ | ⟨z, y⟩
      · cases y
      · obtain ⟨a, ys, h1, h2, h3, h4, h5⟩ := S.ow j es y
        exact ⟨a, ys, h1, h2, by rw [addS_out (e3 j es a y h1)]; exact h3, h4, h5.mono sg⟩
    · rcases get_set q1 with ⟨z, y⟩ | ⟨z1, y1⟩
      · cases y
      rcases get_set q2 with ⟨z, y⟩ | ⟨z2, y2⟩
      · cases y
      exact S.ap j k es fs a y1 y2 q3 q4
    · rcases get_set q with ⟨z, y⟩ | ⟨z, y⟩
      · cases y
      · exact absurd (u j r' y).symm z
  have vr : VRp T (addS G H F) v w := RRp.fzv sg e2.rp (fun a m => addS_in m) hw
  refine ⟨v, F, e1, e2, ?_⟩
  cases w with
  | sh d =>
    have q := S1.setSh (i := i) (v := v) (d := d) vr
    rw [← hs, List.set_set] at q
    exact q
  | ob c fs =>
    have q := S1.setOb (i := i) (v := v) (c := c) (fs := fs) vr
    rw [← hs, List.set_set] at q
    exact q
  | ow _ => exact vr.elim
  | rg _ => exact vr.elim
theorem hid_step {p : Addr} {xs : List V} {G' H' : Hp} (hg : G p = none) (s : Step (upd G p (.lst xs)) H G' H') (hp : H p = some (.lst xs)) : Step G H (hid G' p) H' ∧ G' p = some (.lst xs) := by
  have gp : G' p = some (.lst xs) := s.gg p _ upd_same
  refine ⟨⟨s.hh, fun b u q => ?_, fun b u q => ?_, fun b h1 h2 => ?_, fun n b u q => ?_⟩, gp⟩
  · have ne : b ≠ p := ne_of_none q hg
    rw [hid_ne ne]
    exact s.gg b u (by rw [upd_ne ne]; exact q)
  · have ne : b ≠ p := fun z => by rw [z, hid_same] at q; cases q
    rw [hid_ne ne] at q
    exact s.gh b u q
  · have ne : b ≠ p := fun z => h2 (by rw [z]; exact hid_same)
    rw [hid_ne ne] at h2
    exact s.nw b (by rw [upd_ne ne]; exact h1) h2
  · have ne : b ≠ p := fun z => by rw [z, hid_same] at q; cases q
    rw [hid_ne ne] at q
    refine s.nm (fun c v r => ?_) b u q
    by_cases z : c = p
    · subst z; rw [upd_same] at r; cases r; exact fun z => z
    · rw [upd_ne z] at r; exact n c v r
theorem Sim.frz' (S : Sim T B G env σ H) {i : Nat} {ds : List VL.D} (hi : env[i]? = some (some (.ow ds))) : ∃ p xs, G p = none ∧ H p = some (.lst xs) ∧ DqAll (upd G p (.lst xs)) xs ds ∧ Sim T B (upd G p (.lst xs)) (env.set i (some (.sh (.list ds)))) σ H := by
  obtain ⟨p, xs, e1, e2, e3, e4, e5⟩ := S.ow i ds hi
  have hl : i < σ.length := S.lt hi
  have hs : σ = σ.set i (some (.ref p)) := by
    refine List.ext_getElem? fun j => ?_
    by_cases z : i = j
    · subst z; rw [List.getElem?_set_self hl]; exact e1
    · rw [List.getElem?_set_ne z]
  have sg : Same G (upd G p (.lst xs)) := same_upd e3 _
  have S1 : Sim T B (upd G p (.lst xs)) (env.set i none) σ H := by
    refine ⟨S.st.freeze e4 e3 e2, S.nb, S.me, by rw [List.length_set, S.len], fun j d q => ?_, fun j c fs q => ?_, fun j es q => ?_, fun j k es fs a q1 q2 q3 q4 => ?_, fun j r q => ?_⟩
    · rcases get_set q with ⟨z, y⟩ | ⟨z, y⟩
      · cases y
      · obtain ⟨v, h1, h2⟩ := S.sh j d y; exact ⟨v, h1, h2.mono sg⟩
    · rcases get_set q with ⟨z, y⟩ | ⟨z, y⟩
      · cases y
      · obtain ⟨v, h1, h2⟩ := S.ob j c fs y; exact ⟨v, h1, h2.mono sg⟩
    · rcases get_set q with ⟨z, y⟩ | ⟨z, y⟩
      · cases y
      · obtain ⟨a, ys, h1, h2, h3, h4, h5⟩ := S.ow j es y
        have : a ≠ p := fun e => z (S.ap i j ds es p hi y e1 (e ▸ h1))
        exact ⟨a, ys, h1, h2, by rw [upd_ne this]; exact h3, h4, h5.mono sg⟩
    · rcases get_set q1 with ⟨z, y⟩ | ⟨z1, y1⟩
      · cases y
      rcases get_set q2 with ⟨z, y⟩ | ⟨z2, y2⟩
      · cases y
      exact S.ap j k es fs a y1 y2 q3 q4
    · rcases get_set q with ⟨z, y⟩ | ⟨z, y⟩
      · cases y
      obtain ⟨u, v, F, a, b, c⟩ := S.rg j r y
      have pf : p ∉ F := c i ds p hi e1
      refine ⟨fun j' r' q' => ?_, v, F, a, ⟨RRp.mono sg rfl rfl r F v b.rp fun _ _ => rfl, b.nd, fun d m => ⟨(upd_ne fun (e : d = p) => pf (e ▸ m)).trans (b.nw d m).1, (b.nw d m).2⟩⟩, fun j' ds' p' q1 q2 => ?_⟩
      · rcases get_set q' with ⟨z', y'⟩ | ⟨z', y'⟩
        · cases y'
        · exact u j' r' y'
      · rcases get_set q1 with ⟨z', y'⟩ | ⟨z', y'⟩
        · cases y'
        · exact c j' ds' p' y' q2
  have r := S1.setSh (i := i) (v := .ref p) (d := .list ds) (Dq.lst (SqL.of upd_same) (e5.mono sg))
  rw [← hs, List.set_set] at r
  exact ⟨p, xs, e3, e2, e5.mono sg, r⟩
theorem ve_bor (i : Nat) (h : VE X T EX B e f) : VE X T EX B e (vBor i f) := pe_weak h fun σ H Q q => by
  obtain ⟨G, env, S, o⟩ := q
  unfold vBor at o
  split at o
  rotate_left
  · rename_i r ei
    split at o
    rotate_left
    · exact ⟨G, env, S, o⟩
    rename_i w ew
    obtain ⟨u, F, e1, e2, S'⟩ := S.frzR ei ew
    have k := RRp.at r F u e2.rp
    refine ⟨_, _, S', ?_⟩
    revert o
    cases f (env.set i (some w)) with
    | err c => exact fun o => o
    | stuck => exact fun o => o
    | val w =>
      cases w with
      | ob _ _ => exact fun o => o.elim
      | sh d =>
        intro o v G' H' s' dq
        dsimp only at o
        split at o
        · rename_i n
          obtain ⟨s1, gp⟩ := hidS_step (fun a m => (e2.nw a m).1) k s'
          refine o v _ H' s1 ⟨?_, dq.ok⟩
          rcases n with n | n
          · exact flat_dp d v n dq.dp
          · exact hidS_dp (fun a m => by rw [gp a m]; exact RRp.nots r F u e2.rp n.2 a m) d v n.1 dq.dp
        · exact o.elim
      | ow es =>
        intro o p' ys G' H' s' n1 n2 e4 dq
        dsimp only at o
        split at o
        · rename_i n
          obtain ⟨s1, gp⟩ := hidS_step (fun a m => (e2.nw a m).1) k s'
          have hp : hidS G' F p' = none := by
            by_cases m : p' ∈ F
            · exact hidS_in m
            · rw [hidS_out m]; exact n2
          refine o p' ys _ H' s1 n1 hp e4 ⟨?_, dq.ok⟩
          rcases n with n | n
          · exact flat_dpAll es ys n dq.dp
          · exact hidS_dpAll (fun a m => by rw [gp a m]; exact RRp.nots r F u e2.rp n.2 a m) es ys n.1 dq.dp
        · exact o.elim
      | rg q =>
        intro o v F2 G' H' s' nd nw dq
        dsimp only at o
        split at o
        · rename_i n
          obtain ⟨s1, gp⟩ := hidS_step (fun a m => (e2.nw a m).1) k s'
          refine o v F2 _ H' s1 nd (fun a m => ⟨?_, (nw a m).2⟩) (RRp.leaf (fun d v n' z => ⟨hidS_dp (fun a m => by rw [gp a m]; exact RRp.nots r F u e2.rp n.2 a m) d v n' z.dp, z.ok⟩) q F2 v dq n.1)
          by_cases m' : a ∈ F
          · exact hidS_in m'
          · rw [hidS_out m']; exact (nw a m).1
        · exact o.elim
  · exact ⟨G, env, S, o⟩
  rename_i ds ei
  obtain ⟨p, xs, hg, hp, h5, S'⟩ := S.frz' ei
  refine ⟨_, _, S', ?_⟩
  revert o
  cases f (env.set i (some (.sh (.list ds)))) with
  | err c => exact fun o => o
  | stuck => exact fun o => o
  | val w =>
    cases w with
    | ob _ _ => exact fun o => o.elim
    | sh d =>
      intro o v G' H' s' dq
      dsimp only at o
      split at o
      · rename_i n
        obtain ⟨s1, gp⟩ := hid_step hg s' hp
        exact o v _ H' s1 ⟨n.elim (fun n => hid_dp gp d v n dq.dp) (fun n => hid_dz gp (h5.mono s'.gg).dp d v n dq.dp), dq.ok⟩
      · exact o.elim
    | ow es =>
      intro o p' ys G' H' s' n1 n2 e4 dq
      dsimp only at o
      split at o
      · rename_i n
        obtain ⟨s1, gp⟩ := hid_step hg s' hp
        refine o p' ys _ H' s1 n1 ?_ e4 ⟨n.elim (fun n => hid_dpAll gp es ys n dq.dp) (fun n => n.elim (fun n => hid_dzAll gp (h5.mono s'.gg).dp es ys n dq.dp) (fun n => hid_dzEach gp (h5.mono s'.gg).dp es ys n dq.dp)), dq.ok⟩
        have ne : p' ≠ p := fun z => by rw [z, gp] at n2; cases n2
        rw [hid_ne ne]; exact n2
      · exact o.elim
    | rg q =>
      intro o v F2 G' H' s' nd nw dq
      dsimp only at o
      split at o
      · rename_i n
        obtain ⟨s1, gp⟩ := hid_step hg s' hp
        refine o v F2 _ H' s1 nd (fun a m => ⟨?_, (nw a m).2⟩) (RRp.leaf (fun d v n' z => ⟨hid_dp gp d v n' z.dp, z.ok⟩) q F2 v dq n)
        have ne : a ≠ p := fun z => by
          have := (nw a m).2
          rw [z, hp] at this; cases this
        rw [hid_ne ne]; exact (nw a m).1
      · exact o.elim
theorem vt_bor (i : Nat) (h : VT X T EX B e f) : VT X T EX B e (vBor i f) := pt_weak h fun σ H Q q => by
  obtain ⟨G, env, S, o⟩ := q
  unfold vBor at o
  split at o
  rotate_left
  · rename_i r ei
    split at o
    rotate_left
    · exact ⟨G, env, S, o⟩
    rename_i w ew
    obtain ⟨u, F, e1, e2, S'⟩ := S.frzR ei ew
    have k := RRp.at r F u e2.rp
    refine ⟨_, _, S', ?_⟩
    revert o
    cases f (env.set i (some w)) with
    | err c => exact fun o => o
    | stuck => exact fun o => o
    | val w =>
      cases w with
      | ob _ _ => exact fun o => o.elim
      | ow es => intro o; dsimp only at o; split at o <;> exact o.elim
      | rg q => intro o; dsimp only at o; split at o <;> exact o.elim
      | sh d =>
        intro o
        dsimp only at o
        split at o
        · cases d with
          | bool b =>
            intro G' H' s'
            obtain ⟨s1, gp⟩ := hidS_step (fun a m => (e2.nw a m).1) k s'
            exact o _ H' s1
          | _ => exact o.elim
        · exact o.elim
  · exact ⟨G, env, S, o⟩
  rename_i ds ei
  obtain ⟨p, xs, hg, hp, h5, S'⟩ := S.frz' ei
  refine ⟨_, _, S', ?_⟩
  revert o
  cases f (env.set i (some (.sh (.list ds)))) with
  | err c => exact fun o => o
  | stuck => exact fun o => o
  | val w =>
    cases w with
    | ob _ _ => exact fun o => o.elim
    | ow es => intro o; dsimp only at o; split at o <;> exact o.elim
    | rg q => intro o; dsimp only at o; split at o <;> exact o.elim
    | sh d =>
      intro o
      dsimp only at o
      split at o
      · cases d with
        | bool b =>
          intro G' H' s'
          obtain ⟨s1, gp⟩ := hid_step hg s' hp
          exact o _ H' s1
        | _ => exact o.elim
      · exact o.elim
/-- a test that looks so: as a value -/
@[simp] def sRev (i : Nat) : FS := fun env => match env[i]? with
  | some (some (.ow ds)) => .nx (env.set i (some (.ow ds.reverse)))
  | _ => .stuck
theorem vs_rev (j : Nat) {x : Str} {px apos cpos : Pos} (hN : X.N[j]? = some x := by rfl) (hv : Vis X.env.scope x := by first | exact Or.inl rfl | exact Or.inr (Or.inl rfl) | exact Or.inr (Or.inr rfl)) (hd : (x == ("__debug__" : Str)) = false := by decide) (hcd : (x == ("__classdict__" : Str)) = false := by decide)
    (hline : (apos.endLine == cpos.line) = true := by rfl) : VS X T EX B (.Expr (.Call (.Attribute (.Name x px) "reverse" apos) [] [] cpos) pos) (sRev j) := by
  refine ps_weak (ps_expr (pe_bm0 PySem.F.plainAttrs_list PySem.F.slot_list_reverse PySem.F.type_list_reverse mt_reverse (pe_var hN hv hd hcd) rfl hline) rfl) fun D σ H q => ?_
  obtain ⟨G, env, S, o⟩ := q
  unfold sRev at o
  split at o
  · rename_i ds ei
    obtain ⟨p, xs, h1, h2, h3, h4, h5⟩ := S.ow j ds ei
    exact ⟨.ref p, h1, .inl ⟨rfl, xs, SqL.of h2⟩, p, xs, rfl, rfl, h2, o G _ _ (Same.refl _) (S.write ei h1 h5.reverse)⟩
  · exact o.elim
/-- four names at once -/
@[simp] def tg4 (i j k l : Nat) : Tg := fun d env => match d with
  | .tuple [x, y, z, w] => some ((((env.set i (some (.sh x))).set j (some (.sh y))).set k (some (.sh z))).set l (some (.sh w)))
  | _ => none
theorem tr_4 {K : PySem.W.Frag} {i j l m : Nat} : TgRun T B (gTup K 4 (gCons (gName i) (gCons (gName j) (gCons (gName l) (gCons (gName m) gNil))))) [i, j, l, m] (tg4 i j l m) := by
  intro G env σ H v d env' Q S dq e q
  unfold tg4 at e
  split at e
  · cases e
    obtain ⟨l, xs, rfl, sq, q1⟩ := dq.tupInv
    obtain ⟨v1, vs1, rfl, d1, q2⟩ := q1.inv
    obtain ⟨v2, vs2, rfl, d2, q3⟩ := q2.inv
    obtain ⟨v3, vs3, rfl, d3, q4⟩ := q3.inv
    obtain ⟨v4, vs4, rfl, d4, q5⟩ := q4.inv
    cases q5.inv0
    exact ⟨l, _, rfl, sqT_K (same_seqT S.gh sq), rfl, v1, _, rfl, v2, _, rfl, v3, _, rfl, v4, _, rfl, rfl, q _ ((((S.setSh d1).setSh d2).setSh d3).setSh d4) (SetIn.trans (is := [i, j, _]) (SetIn.trans (is := [i, j]) (SetIn.trans (js := [j]) .one .one) .one) .one)⟩
  · cases e
/-- f() -/
theorem ve_callF0 {x : Str} {k : Nat} {m : List SV → R} (F : Fn X.prog X.w X.K X.mg X.base T k x 0 m) (hr : Room k X.A) (hg : Gl X x) (C : Cv X T EX B) (hd : (x == ("__debug__" : Str)) = false := by decide) :
    VE X T EX B (.Call (.Name x p) [] [] pos) (calF 0 m []) := by
  obtain ⟨f, fd, ps, F, hm, hk, hb⟩ := F
  refine pe_weak (pe_callG0 (E := fun _ => EX) F C.gd hr hg hm hk hb (fun σ pn H s e s' => C.pass pn σ H s e s') hd) fun σ H Q q => ?_
  obtain ⟨G, env, S, o⟩ := q
  exact ⟨G, [], S.gh, S.st.nm S.nb, S.me, .nil, rfl, o⟩
/-- x.pop(k) of one's own, the item kept or not -/
def sPopA (i j : Nat) (g : FE) : FS := fun env => match env[j]? with
  | some (some (.ow ds)) => (match evA [g] env with
    | .val [.sh (.int k)] => (match (if k ≤ 1000000 then ixN ds.length k else none) with
      | some n => (match ds[n]? with
        | some d => .nx ((env.set j (some (.ow (ds.eraseIdx n)))).set i (some (.sh d)))
        | none => .stuck)
      | none => .stuck)
    | .err c => .err c
    | _ => .stuck)
  | _ => .stuck
end
end VL
namespace VL
open PySem L2
/-! ### the end of a law -/
theorem df_mk {K : PySem.W.Frag} {h : Heap} {mg : Str → Option Value} {x q : Str} {st : Stmt} {ps : List Str} {f : Addr} {oc : Value} {od an : Option Addr} {osl : Array (Option Value)} {kV doc pm cdv ct : Value} (X : K.In h) (G : h.Ns mainGlobals mg)
    (a : PySem.W.nsIn K mainGlobals x = some (some (.ref f))) (l : K.lookup f = some ⟨oc, od, .func (PySem.W.fnOf q q (defArgs st) (defBody st) (defScope st) .none kV doc pm an cdv ct), osl⟩) (c : PySem.W.codeIn K cdv q = true) (k : PySem.W.keepIn K (.ref f) = true)
    (hb : ∀ (kV doc pm : Value) (an : Option Addr) (cdv ct : Value) (us : List Value), us.length = ps.length → bindArgs (PySem.W.fnOf q q (defArgs st) (defBody st) (defScope st) .none kV doc pm an cdv ct) ⟨us, []⟩ = pure (ps.zip us)) : Df K mg x q st ps := by
  have F := fun_mk (st := st) l c k
  exact ⟨f, _, F, PySem.W.mg_of X G a, F.binds hb⟩
theorem er_mk {K : PySem.W.Frag} {h : Heap} {mg : Str → Option Value} {x : Str} {C : Addr} (X : K.In h) (G : h.Ns mainGlobals mg) (a : PySem.W.nsIn K mainGlobals x = some (some (.ref C))) (e : PySem.W.excIn K C veMro "ValueError.__new__" = true) (k : PySem.W.keepIn K (.ref C) = true)
    (s : PySem.W.subIn K (.ref C) (.type "BaseException") = some true) (t : PySem.W.typeIn K (.ref C) = some (.type "type")) : Er K mg (ctOf mg) x := ⟨C, PySem.W.mg_of X G a, adOf_eq (PySem.W.mg_of X G a), e, k, s, t⟩
theorem no_mk {K : PySem.W.Frag} {h : Heap} {mg : Str → Option Value} {x : Str} (X : K.In h) (G : h.Ns mainGlobals mg) (z : PySem.W.nsIn K mainGlobals x = some none) : mg x = none := PySem.W.mg_none_of X G z
theorem k_mk {K : PySem.W.Frag} {h : Heap} {mg : Str → Option Value} {x : Str} {i : Int} {tk : Tok} (X : K.In h) (G : h.Ns mainGlobals mg) (z : PySem.W.nsIn K mainGlobals x = some (some (.int i tk))) : ∃ tk, mg x = some (.int i tk) := ⟨tk, PySem.W.mg_of X G z⟩
/-- no list stands in the written part -/
def noLst (K : PySem.W.Frag) : Bool := K.all fun p => match p.2.cls with
  | .type n => n != "list"
  | _ => true
theorem noLst_sq {K : PySem.W.Frag} (h : noLst K = true) {H : Hp} {a : Addr} {xs : List V} (s : SqL K H a xs) : SqL [] H a xs := by
  rcases s with s | ⟨o, its, n, hk, hc, _⟩
  · exact .inl s
  · exfalso
    have : ∀ {K : PySem.W.Frag} {a : Addr} {o : Obj}, K.lookup a = some o → ∃ b, (b, o) ∈ K := by
      intro K
      induction K with
      | nil => intro a o h; cases h
      | cons p r ih =>
        intro a o h
        rw [List.lookup_cons] at h
        split at h
        · cases h; exact ⟨p.1, List.mem_cons_self⟩
        · obtain ⟨b, hb⟩ := ih h; exact ⟨b, List.mem_cons_of_mem _ hb⟩
    obtain ⟨b, hb⟩ := this hk
    have z := List.all_eq_true.mp h _ hb
    simp only [hc] at z
    exact absurd z (by decide)
def spLaw : Sp := fun vs H Q _ => ∃ (a : Addr) (ns : List Int), vs = [.ref a] ∧ ns.length ≤ 63 ∧ (∀ z ∈ ns, Builtin.Int.intBits z ≤ 1048576) ∧ SqL [] H a (ns.map V.int) ∧ ∀ H', Q (.bl true) H'
theorem law_imp {T : Ct} (hT : T.me = none) {m : List SV → R} (h : ∀ ns : List Int, ns.length ≤ 63 → (∀ z ∈ ns, Builtin.Int.intBits z ≤ 1048576) → m [.sh (.list (ns.map .int))] = .val (.sh (.bool true))) : ∀ vs H Q E, spLaw vs H Q E → spV T 1 m vs H Q E := by
  rintro vs H Q E ⟨a, ns, rfl, h1, h2, s, q⟩
  let G : Hp := fun b => if b = a then H a else none
  have ga : G a = H a := if_pos rfl
  have gs : Same G H := fun b o e => by
    by_cases z : b = a
    · subst z; rw [ga] at e; exact e
    · have : G b = none := if_neg z
      rw [this] at e; cases e
  have sg : SqL [] G a (ns.map V.int) := by
    rcases s with (s | ⟨o, s⟩) | ⟨o, its, n, hk, _⟩
    · exact .inl (.inl (by rw [ga]; exact s))
    · exact .inl (.inr ⟨o, by rw [ga]; exact s⟩)
    · cases hk
  have ng : NoMem G := fun b o e m => by
    by_cases z : b = a
    · subst z
      rcases sg with (s | ⟨o', s⟩) | ⟨o', its, n, hk, _⟩
      · rw [e] at s; cases s; exact m
      · rw [e] at s; cases s; exact m
      · cases hk
    · have : G b = none := if_neg z
      rw [this] at e; cases e
  refine ⟨G, [.sh (.list (ns.map .int))], gs, ng, fun a z => (by rw [hT] at z; cases z), .cons (Dq.lst sg (dq_ints ns)) .nil, rfl, ?_⟩
  rw [h ns h1 h2]
  intro v G' H' _ d
  rw [d.blInv]
  exact q H'
theorem walk {l : PySem.W.OpenLaw} {q : Program} {loose : List Str} {XP : (Str → Option Value) → Heap → Prop} {YP : World → Heap → Prop} {d : DefRec} {K : Params → PySem.W.Frag} {k : Nat} (hr : Room k callerA) (hn : l.most = some 63) (hdf : d.params.defaults = [])
    (hY : ∀ (w : World) (h : Heap), YP w h → (K w.params).In h) (hL : ∀ w : World, noLst (K w.params) = true)
    (F : ∀ (w : World) (mg : Str → Option Value) (fa : Addr) (h : Heap), (K w.params).In h → h.Ns mainGlobals mg → mg d.name = some (.ref fa) →
      ∃ fd : FuncData, (∀ (s : Shared) (u : Value), BindsTo s fd ⟨[u], []⟩ [("_law_script", u)]) ∧ ∀ base : Heap, (K w.params).In base → FnGd l.prog w (K w.params) mg base (L2.CX l.prog w) k fa fd ["_law_script"] spLaw) :
    PySem.W.WalkO q loose XP YP l.row.toRowW d [] (fun f vs => PySem.call f vs) := by
  refine Att.attach_callB hn hdf fun w s0 s1 mg mb fa o pm cd doc a vs ns G Y ho hd hcd hmg hobj hints hlen hbits hg => ?_
  obtain ⟨fd, hb, hF⟩ := F w mg fa _ (hY w _ Y) G.T.g hmg
  exact due_all (hY w _ Y) G.T.g G.T.b G.T.builtins G.T.nolimit hg hobj hints (Nat.le_trans hlen (by decide)) hr hF hb fun H _ hS => ⟨a, ns, rfl, hlen, hbits, noLst_sq (hL w) hS, fun _ => rfl⟩
end VL
namespace VL
open PySem L2
/-! ### try: a call, except the errors of one class: a suite that asks of what class it is -/
@[simp] def noX1 : Option SV → Bool
  | some (.ob c _) => c != 100
  | _ => true
@[simp] def noX (env : VEnv) : Bool := env.all noX1
theorem noX_ob {env : VEnv} (h : noX env = true) {i : Nat} {c : Nat} {fs : List D} (e : env[i]? = some (some (.ob c fs))) : c ≠ 100 := by
  have := List.all_eq_true.mp h _ (List.mem_of_getElem? e)
  simpa using this
theorem ObRp.other {T T' : Ct} {G : Hp} {v : V} {c : Nat} {fs : List D} (hc : c ≠ 100) (h1 : T.ad = T'.ad) (h2 : T.fl = T'.fl) (h3 : T.me = T'.me) (h : ObRp T G v c fs) : ObRp T' G v c fs := by
  unfold ObRp at *
  rw [if_neg hc] at *
  rw [← h1, ← h2, ← h3]; exact h
theorem Sim.other {T T' : Ct} {B : Hp × Hp} {G H : Hp} {env : VEnv} {σ : L2.St} (S : Sim T B G env σ H) (h : noX env = true) (h1 : T.ad = T'.ad) (h2 : T.fl = T'.fl) (h3 : T.me = T'.me) : Sim T' B G env σ H :=
  ⟨S.st, S.nb, h3 ▸ S.me, S.len, S.sh, fun i c fs e => by
    obtain ⟨v, a, b⟩ := S.ob i c fs e
    exact ⟨v, a, b.other (noX_ob h e) h1 h2 h3⟩, S.ow, S.ap, fun i r e => by
    obtain ⟨u, v, F, a, b, c⟩ := S.rg i r e
    exact ⟨u, v, F, a, ⟨RRp.mono (Same.refl _) h1 h2 r F v b.rp fun _ _ => rfl, b.nd, b.nw⟩, c⟩⟩
@[simp] def sTry (i : Nat) (es : List Str) (n : Nat) (m : List SV → R) (fs : List FE) (hd : Str → FS) : FS := fun env => if noX env = true then (match evA fs env with
    | .val as => if as.length = n then (match m as with
      | .val _ => .nx env
      | .err c => if c ∈ es then (match hd c (env.set i (some (.ob 100 []))) with
        | .nx e => if noX (e.set i none) = true then .nx (e.set i none) else .stuck
        | _ => .stuck) else .stuck
      | .stuck => .stuck) else .stuck
    | _ => .stuck) else .stuck
/-- isinstance(error, d), error of class c -/
@[simp] def vIsE (i : Nat) (c d : Str) : FE := fun env => match env[i]? with
  | some (some (.ob 100 _)) => rb (c == d)
  | _ => .stuck
/-- what the top says of an error c that a clause takes by the name h and asks for the classes ds -/
structure Xc (K : PySem.W.Frag) (mg : Str → Option Value) (T : Ct) (h : Str) (ds : List Str) (c : Str) : Prop where
  ex : ExcC K (T.er c)
  ct : ∃ cH, mg h = some cH ∧ PySem.W.exmOne K (.ref (T.er c)) cH = some true
  is : ∀ d ∈ ds, ∃ C, mg d = some (.ref C) ∧ PySem.W.kitOne K (.ref (T.er c)) (.ref C) = some (c == d)
section
variable {X : Cx} {T : Ct} {EX : XK} {B : Hp × Hp} {e a b c o tg : Expr} {es : List Expr} {pos p p2 : Pos} {f g h : FE} {fs : List FE} {G H G1 H1 : Hp} {Q : VK} {st : Stmt} {sts : List Stmt} {s t : FS} {D : Ends} {σ : L2.St} {env : VEnv}
theorem vs_setN (i : Nat) {x : Str} {pos' : Pos} (nd : X.N.Nodup) (he : VE X T EX B e f) (hi : X.N[i]? = some x := by rfl) (hx : Loc X.env.scope x := by first | exact .inl rfl | exact .inr rfl) (hs : swapsWith e (some (.Name x pos')) pos.line X.env = pure false := by rfl) (hf : X.fn x = true ∨ X.env.scope.names.lookup x = some .local := by first | exact .inl rfl | exact .inr rfl) :
    VS X T EX B (.Assign [.Name x pos'] e pos) (sSet i f) := ps_weak (ps_set nd hi hx he hs hf) fun D σ H q => by
  obtain ⟨G, env, S, o⟩ := q
  exact seqS S o fun v _ o => set_fz S o
theorem ve_isE (i : Nat) {x d cn hn : Str} {ds : List Str} {px p1 : Pos} {oe : Obj} {pn : List (Addr × Obj)} {ad : Addr} (xc : Xc X.K X.mg T hn ds cn) (hz : Zc (.ref (T.er cn)) none oe) (hf : ∃ vs, oe.data = .fields vs) (hd : d ∈ ds)
    (bi : Bt (X.suite ad ((ad, oe) :: pn)) "isinstance") (hg : Gl (X.suite ad ((ad, oe) :: pn)) d) (hN : X.N[i]? = some x := by rfl) (hv : Vis X.env.scope x := by first | exact Or.inl rfl | exact Or.inr (Or.inl rfl) | exact Or.inr (Or.inr rfl)) (hdb : (x == ("__debug__" : Str)) = false := by decide) (hcd : (x == ("__classdict__" : Str)) = false := by decide) (hdd : (d == ("__debug__" : Str)) = false := by decide)
    (hs : starEach [.Name x px, .Name d p1] X.env = (false, eval (.Name x px) X.env) :: starEach [.Name d p1] X.env := by rfl) :
    VE (X.suite ad ((ad, oe) :: pn)) { T with xa := ad } EX B (.Call (.Name "isinstance" p) [.Name x px, .Name d p1] [] pos) (vIsE i cn d) := by
  obtain ⟨C, h1, h2⟩ := xc.is d hd
  refine pe_weak (pe_callB (call_isE xc.ex hz hf) bi.gl bi.mg PyProof.Rows.boot_isinstance (pa_cons (pe_var hN hv hdb hcd) (pa_cons (pe_glob (v := .ref C) hg h1 rfl hdd) pa_nil rfl) hs) (by decide) (by decide) hs rfl) fun σ H Q q => ?_
  obtain ⟨G, env, S, o⟩ := q
  unfold vIsE at o
  split at o
  · rename_i fs' e'
    obtain ⟨v, e1, e2⟩ := S.ob i 100 _ e'
    unfold ObRp at e2
    rw [if_pos rfl] at e2
    subst e2
    refine ⟨_, e1, .ref C, .ref C, _, rfl, fun u r => r, h2, ?_⟩
    exact o.rb S.gh
  · exact o.elim
theorem vs_try (i : Nat) {x n hn : Str} {k q : Nat} {m : List SV → R} {ers ds : List Str} {hd : Str → FS} {np pos' pos1 pos2 : Pos} {b₀ : Stmt} {suite : List Stmt}
    (C : Cv X T EX B) (hs : X.stack = X.env :: X.outer) (hf : X.env.frame = some X.env.locals) (F : Fn X.prog X.w X.K X.mg X.base T k x q m) (hr : Room k X.A) (hg : Gl X x)
    (hgh : Gl X hn) (xc : ∀ c ∈ ers, Xc X.K X.mg T hn ds c) (hc : ∃ cH, X.mg hn = some cH)
    (ha : ∀ pn xe, VA (X.tr pn xe) T E0 B (e :: es) fs)
    (hsu : ∀ (a : Addr) (oe : Obj) (pn : List (Addr × Obj)) (c : Str), c ∈ ers → Zc (.ref (T.er c)) none oe → (∃ vs, oe.data = .fields vs) → VSs (X.suite a ((a, oe) :: pn)) { T with xa := a } E0 B (b₀ :: suite) (hd c))
    (hi : X.N[i]? = some n := by rfl) (hln : X.env.kindOf n = some .local := by rfl) (hdh : (hn == ("__debug__" : Str)) = false := by decide) (hdb : (x == ("__debug__" : Str)) = false := by decide) (hst : starEach (e :: es) X.env = (false, eval e X.env) :: starEach es X.env := by rfl) (hpl : ((backTo pos1 (starEach es X.env)).any fun z => z.1) = false := by rfl)
    (hsw : swapsWith (.Call (.Name x p) (e :: es) [] pos1) none pos2.line X.env = pure false := by rfl) :
    VS X T EX B (.Try [.Expr (.Call (.Name x p) (e :: es) [] pos1) pos2] [.ExceptHandler (some (.Name hn np)) (some n) (b₀ :: suite) pos'] [] [] pos) (sTry i ers q m fs hd) := by
  obtain ⟨cH, hcH⟩ := hc
  obtain ⟨fa, fd, ps, F, hm, hk, hb⟩ := F
  refine ps_weak (ps_try_as (i := i) (c := cH) (tb := fun W D σ H => tCallS (spV T q m) (WE W) (rdA T E0 B fs) σ H fun _ H' => D.nx σ H') (Wout := fun _ _ _ _ => False)
    (ts := fun a cls d D σ H => ∃ c, c ∈ ers ∧ cls = .ref (T.er c) ∧ d = none ∧ rdS { T with xa := a } E0 B (hd c) D σ H) hs hf C.nd hi hln ⟨hgh, hdh, .inl hcH⟩ takes0 (fun W pn xe tk _ => ?_) (fun a oe cls d pn hz hfl => ?_)) fun D σ H w => ?_
  · exact pss_one (ps_weak (ps_expr (pe_callG (X := X.tr pn xe) (E := WE W) F C.gd hr hg hm hk hb (fun σ => passAt tk σ) (ha pn xe) hdb hst hpl) hsw) fun D σ H z => z)
  · refine ⟨fun pins s σ H D I z => ?_⟩
    obtain ⟨c, h1, h2, h3, z⟩ := z
    subst h2 h3
    exact (hsu a oe pn c h1 hz hfl).run pins s σ H D I z
  · obtain ⟨G, env, S, o⟩ := w
    unfold sTry at o
    split at o
    case isFalse => exact o.elim
    rename_i nx0
    refine ⟨G, env, S, ?_⟩
    revert o
    cases evA fs env with
    | err c => exact fun o => o.elim
    | stuck => exact fun o => o.elim
    | val as =>
      intro o vs G' H' st rp
      dsimp only at o
      split at o
      case isFalse => exact o.elim
      rename_i hl
      refine ⟨G', as, st.gh, st.nm (S.st.nm S.nb), (S.step st).me, rp, hl, ?_⟩
      revert o
      cases m as with
      | stuck => exact fun o => o.elim
      | val v => exact fun o => Out.fz fun y G2 H2 s2 _ => o G2 σ H2 (st.trans s2).gg (S.step (st.trans s2))
      | err c =>
        intro o H2 sh
        dsimp only at o
        split at o
        case isFalse => exact o.elim
        rename_i hc
        obtain ⟨cH', h1, h2⟩ := (xc c hc).ct
        rw [hcH] at h1
        cases h1
        refine ⟨true, h2, fun _ a na => ⟨c, hc, rfl, rfl, G', env.set i (some (.ob 100 [])), ?_, ?_⟩, fun z => nomatch z⟩
        · have S1 : Sim T B G' env σ H2 := (S.step st).step ⟨sh, Same.refl _, sh.up st.gh (st.nm (S.st.nm S.nb)), fun _ u w => absurd u w, fun n => n⟩
          exact Sim.setOb (S1.other (T' := { T with xa := a }) nx0 rfl rfl rfl) (by unfold ObRp; rw [if_pos rfl])
        · revert o
          cases hd c (env.set i (some (.ob 100 []))) with
          | stuck => exact fun o => o.elim
          | err c => exact fun o => o.elim
          | rt v => exact fun o => o.elim
          | nx e =>
            intro o G3 σ3 H3 sg S3
            dsimp only at o
            split at o
            case isFalse => exact o.elim
            rename_i nx1
            exact o G3 (σ3.set i none) H3 (st.gg.trans sg) (Sim.other (T := { T with xa := a }) S3.setNone nx1 rfl rfl rfl)
end
inductive Xi (K : PySem.W.Frag) (C : Addr) (c : Str) : List Str → Prop
  | nil : Xi K C c []
  | cons {d : Str} {ds : List Str} {D : Addr} (a : PySem.W.nsIn K mainGlobals d = some (some (.ref D))) (e : PySem.W.kitOne K (.ref C) (.ref D) = some (c == d)) (r : Xi K C c ds) : Xi K C c (d :: ds)
theorem xi_nil {K : PySem.W.Frag} {C : Addr} {c : Str} : Xi K C c [] := .nil
theorem xi_cons {K : PySem.W.Frag} {C D : Addr} {c d : Str} {ds : List Str} {b : Bool} (a : PySem.W.nsIn K mainGlobals d = some (some (.ref D))) (e : PySem.W.kitOne K (.ref C) (.ref D) = some b) (hb : (c == d) = b) (r : Xi K C c ds) : Xi K C c (d :: ds) := .cons a (hb ▸ e) r
theorem Xi.get {K : PySem.W.Frag} {h : Heap} {mg : Str → Option Value} {C : Addr} {c : Str} (X : K.In h) (G : h.Ns mainGlobals mg) : ∀ {ds : List Str}, Xi K C c ds → ∀ d ∈ ds, ∃ D, mg d = some (.ref D) ∧ PySem.W.kitOne K (.ref C) (.ref D) = some (c == d)
  | _, .nil, d, m => absurd m List.not_mem_nil
  | _, .cons a e r, d, m => by
    rcases List.mem_cons.mp m with rfl | m
    · exact ⟨_, PySem.W.mg_of X G a, e⟩
    · exact r.get X G d m
theorem xc_mk {K : PySem.W.Frag} {h : Heap} {mg : Str → Option Value} {C CH : Addr} {c hn : Str} {ds : List Str} (X : K.In h) (G : h.Ns mainGlobals mg) (a : PySem.W.nsIn K mainGlobals c = some (some (.ref C))) (ex : ExcC K C)
    (ah : PySem.W.nsIn K mainGlobals hn = some (some (.ref CH))) (hm : PySem.W.exmOne K (.ref C) (.ref CH) = some true) (xi : Xi K C c ds) : Xc K mg (ctOf mg) hn ds c := by
  have e : (ctOf mg).er c = C := adOf_eq (PySem.W.mg_of X G a)
  exact ⟨by rw [e]; exact ex, ⟨_, PySem.W.mg_of X G ah, by rw [e]; exact hm⟩, by rw [e]; exact xi.get X G⟩
theorem xa_nil {Q : Str → Prop} : ∀ c ∈ ([] : List Str), Q c := fun _ m => absurd m List.not_mem_nil
theorem xa_cons {Q : Str → Prop} {a : Str} {r : List Str} (h : Q a) (t : ∀ c ∈ r, Q c) : ∀ c ∈ a :: r, Q c := fun c m => by
  rcases List.mem_cons.mp m with rfl | m
  · exact h
  · exact t c m
end VL
namespace VL
open PySem L2
/-! ### xs.index(y), xs.count(y) of any data -/
section
variable {X : Cx}
def rCountD (K : PySem.W.Frag) : V → List V → Hp → VK → Prop := fun x xs H Q => ∃ (a : Addr) (y : V) (d : PyData) (ds : List PyData), x = V.ref a ∧ xs = [y] ∧ Dp K H (V.ref a) (.list ds) ∧ Dp K H y d ∧
  SeqAt.shaped (.list ds) = true ∧ SeqAt.shaped d = true ∧ Q (.int ((ds.countP fun z => PyData.eqv z d : Nat) : Int)) H
theorem mt_countD (hu : X.A.units + 65 < cLine) : MtR X "list.count" (rCountD X.K) := by
  intro pins s σ H x xs v us Q I rx rxs h
  obtain ⟨a, y, d, ds, rfl, rfl, hl, hy, sl, sd, q⟩ := h
  cases rx
  obtain ⟨uy, rfl, ry⟩ := rxs.one
  obtain ⟨bs, r1⟩ := Dp.reads I d y uy hy ry
  have hxs : PyData.canLayAll0 ds = true := SeqAt.canLay_of_shaped sl
  cases hl with
  | lst hs ha =>
    obtain ⟨its, rv, ⟨⟨cls, dd, data, sls⟩, n, ho, hc, hdn, hdt⟩, hlen⟩ := I.list hs
    simp only at hc hdt
    subst hc hdt
    obtain ⟨as, h4⟩ := Dp.readsAll I ds _ its ha rv
    have em : its.map (SeqAt.readOf s.heap) = ds := SeqAt.readsAll_map ds its as hxs h4
    refine call_meets PySem.F.slot_list_count ⟨_, ho, rfl⟩ PySem.F.entry_list_count (PySem.F.args_list_count_2 _ _) (SeqAt.list_countAt a its.toArray n dd sls uy fun u => PyData.eqv (SeqAt.readOf s.heap u) d)
      ⟨ho, SeqAt.items_eqAt (vs := its.toArray) (show ReadsAll s.heap its.toArray.toList ds as from h4) r1 hxs (SeqAt.canLay_of_shaped sd) (PyProof.Rows.room_in_shaped sd hu), ?_⟩
    have ec : its.toArray.toList.countP (fun u => PyData.eqv (SeqAt.readOf s.heap u) d) = ds.countP fun z => PyData.eqv z d := by
      rw [← em, List.countP_map]; rfl
    refine ⟨.int ((ds.countP fun z => PyData.eqv z d : Nat) : Int), H, I.tok _, ⟨s.toks, ?_⟩, q⟩
    show Value.int ((its.toArray.toList.countP fun u => PyData.eqv (SeqAt.readOf s.heap u) d : Nat) : Int) s.toks = _
    rw [ec]
end
@[simp] def fCntD : D → D → R
  | .list ds, y => if SeqAt.shaped (.list ds) = true ∧ SeqAt.shaped y = true then ri ((ds.countP fun z => PyData.eqv z y : Nat) : Int) else .stuck
  | _, _ => .stuck
@[simp] def fIdxD : D → D → R
  | .list ds, y => if SeqAt.shaped (.list ds) = true ∧ SeqAt.shaped y = true then (match ds.findIdx? fun z => PyData.eqv z y with
    | some j => ri (j : Nat)
    | none => .stuck) else .stuck
  | _, _ => .stuck
/-- a method of one argument, of a list's -/
@[simp] def vMth (h : D → D → R) (f g : FE) : FE := fun env => (f env).d fun x => match x with
  | .list ds => (evA [g] env).b fun as => match as with
    | [.sh y] => h (.list ds) y
    | _ => .stuck
  | _ => .stuck
section
variable {X : Cx} {T : Ct} {EX : XK} {B : Hp × Hp} {e a b c o tg : Expr} {es : List Expr} {pos p p2 : Pos} {f g h : FE} {fs : List FE} {G H G1 H1 : Hp} {Q : VK} {st : Stmt} {sts : List Stmt} {s t : FS} {D : Ends} {σ : L2.St} {env : VEnv}
theorem mth_use {r : V → List V → Hp → VK → Prop} {fn : VL.D → VL.D → R} (prim : ∀ (l : Addr) (y : V) (ds : List VL.D) (d : VL.D) (G H : Hp), Same G H → Dq G (.ref l) (.list ds) → Dq G y d → Out T EX (fn (.list ds) d) G H Q → r (.ref l) [y] H Q)
    (q : rdV T EX B (vMth fn f g) σ H Q) : rdV T EX B f σ H (fun x H1 => (∃ l xs, x = .ref l ∧ SqL [] H1 l xs) ∧ rdA T EX B [g] σ H1 fun vs H2 => r x vs H2 Q) := by
  obtain ⟨G, env, S, o⟩ := q
  refine rdV_mono (seqD S o) fun x H1 ⟨dx, G1, s1, hx, S1, o1⟩ => ?_
  split at o1
  · obtain ⟨l, xs, rfl, sq, q1⟩ := hx.lstH S1.gh
    refine ⟨⟨l, xs, rfl, sq⟩, args_seq S1 o1 fun vs as G2 H2 s2 rp S2 o2 => ?_⟩
    split at o2
    · cases rp with
      | cons h1 t =>
        cases t
        exact prim l _ _ _ G2 H2 S2.gh (hx.mono s2.gg) h1 o2
    · exact o2.elim
  · exact o1.elim
theorem dq_dp {K : PySem.W.Frag} {v : V} {d : VL.D} (h : Dq G v d) (e : Same G H) : Dp K H v d := dp_K _ _ (h.mono e).dp
theorem ve_count {apos : Pos} (C : Cv X T EX B) (ha : VE X T EX B a f) (hb : VE X T EX B b g) (hbase : attributeBase a "count" X.env (eval a X.env) = eval a X.env := by rfl)
    (hline : (apos.endLine == pos.line) = true := by rfl) (hs : starEach [b] X.env = [(false, eval b X.env)] := by rfl) (hplain : (backTo pos (starEach [] X.env)).any (·.1) = false := by rfl)
    (hfew : ((backTo pos (starEach [b] X.env)).all (fun x => !x.1) && (backToKw pos (keywordEach [] X.env)).all (fun x => x.1.isSome)
      && decide ([b].length + ([] : List Keyword).length + (if ([] : List Keyword).isEmpty then 0 else 1) < 30)) = true := by rfl) : VE X T EX B (.Call (.Attribute a "count" apos) [b] [] pos) (vMth fCntD f g) := by
  refine pe_weak (pe_bm PySem.F.plainAttrs_list PySem.F.slot_list_count PySem.F.type_list_count (mt_countD (by have := C.un; omega)) ha (va_cons hb va_nil hs) hbase hfew hline hs hplain) fun σ H Q q => ?_
  refine rdV_mono (mth_use (r := rCountD X.K) (fun l y ds d G H gh h1 h2 o => ?_) q) fun x H1 z => ?_
  · simp only [fCntD] at o
    split at o
    · rename_i c
      exact ⟨l, y, d, ds, rfl, rfl, dq_dp h1 gh, dq_dp h2 gh, c.1, c.2, o.ri gh⟩
    · exact o.elim
  · obtain ⟨⟨l, xs, rfl, sq⟩, z⟩ := z
    exact ⟨.inl ⟨rfl, xs, sqL_K sq⟩, z⟩
theorem ve_indexD {apos : Pos} (C : Cv X T EX B) (ha : VE X T EX B a f) (hb : VE X T EX B b g) (hbase : attributeBase a "index" X.env (eval a X.env) = eval a X.env := by rfl)
    (hline : (apos.endLine == pos.line) = true := by rfl) (hs : starEach [b] X.env = [(false, eval b X.env)] := by rfl) (hplain : (backTo pos (starEach [] X.env)).any (·.1) = false := by rfl)
    (hfew : ((backTo pos (starEach [b] X.env)).all (fun x => !x.1) && (backToKw pos (keywordEach [] X.env)).all (fun x => x.1.isSome)
      && decide ([b].length + ([] : List Keyword).length + (if ([] : List Keyword).isEmpty then 0 else 1) < 30)) = true := by rfl) : VE X T EX B (.Call (.Attribute a "index" apos) [b] [] pos) (vMth fIdxD f g) := by
  refine pe_weak (pe_bm PySem.F.plainAttrs_list PySem.F.slot_list_index PySem.F.type_list_index (mt_indexD (by have := C.un; omega)) ha (va_cons hb va_nil hs) hbase hfew hline hs hplain) fun σ H Q q => ?_
  refine rdV_mono (mth_use (r := rIndexD X.K) (fun l y ds d G H gh h1 h2 o => ?_) q) fun x H1 z => ?_
  · simp only [fIdxD] at o
    split at o
    · rename_i c
      split at o
      · rename_i j ej
        obtain ⟨hj, h3, h4⟩ := List.findIdx?_eq_some_iff_getElem.mp ej
        exact ⟨l, y, d, ds, j, ds[j], rfl, rfl, dq_dp h1 gh, dq_dp h2 gh, c.1, c.2, List.getElem?_eq_getElem hj, h3, fun m z' hm hz => by
          obtain ⟨w, hw⟩ := List.getElem?_eq_some_iff.mp hz
          have := h4 m hm
          rw [hw] at this
          simpa using this, o.ri gh⟩
      · exact o.elim
    · exact o.elim
  · obtain ⟨⟨l, xs, rfl, sq⟩, z⟩ := z
    exact ⟨.inl ⟨rfl, xs, sqL_K sq⟩, z⟩
end
end VL
namespace VL
open PySem L2
/-! ### str(x) of a list or a tuple -/
def isSeq : D → Bool
  | .list _ | .tuple _ => true
  | _ => false
def fStr (d : D) : R := if isSeq d = true ∧ d.showable = true ∧ d.hasDict = false ∧ d.depth ≤ 64 ∧ d.shown.length ≤ 16777216 ∧ PyData.strOk d.shown = true then ok (.str d.shown) else .stuck
section
variable {X : Cx} {T : Ct} {EX : XK} {B : Hp × Hp} {a : Expr} {pos p : Pos} {f : FE} {G H : Hp} {Q : VK}
theorem call_strD (hg : X.A.guards = some []) (hu : X.A.units + 150 < cLine) : CallR X (.type "str") (fun xs H Q => ∃ (b : Addr) (d : D), xs = [.ref b] ∧ Dp X.K H (.ref b) d ∧ d.showable = true ∧ d.hasDict = false ∧ d.depth ≤ 64 ∧ d.shown.length ≤ 16777216 ∧ Q (.str d.shown) H) := by
  intro pn s σ H xs us Q I r h
  obtain ⟨b, d, rfl, hd, h1, h2, h3, h4, q⟩ := h
  obtain ⟨u, rfl, ru⟩ := vals1 r
  obtain ⟨as, rd⟩ := Dp.reads I d (.ref b) u hd ru
  obtain rfl : u = Value.ref b := ru
  exact str_of_reads rd h1 (fun z => by rw [h2] at z; cases z) hg (by omega) (fun _ _ e => e) (fun h' u tk hk => ⟨.str d.shown, H, I.kept hk, ⟨u, rfl⟩, q⟩) (by rw [sizeLine_eq]; exact h4)
theorem ve_str1 (C : Cv X T EX B) (t : Bt X "str") (ha : VE X T EX B a f) (hs : starEach [a] X.env = [(false, eval a X.env)] := by rfl) : VE X T EX B (.Call (.Name "str" p) [a] [] pos) (cal1 fStr f) :=
  ve_cal1T (call_strD C.gd C.un) (fun Q v d G H gh hv o => by
    unfold fStr at o
    split at o
    · rename_i z
      obtain ⟨z0, z1, z2, z3, z4, z5⟩ := z
      have hd := dq_dp (K := X.K) hv gh
      cases d with
      | list ds =>
        obtain ⟨l, xs, rfl, s1, q1⟩ := hv.lstH gh
        exact ⟨l, _, rfl, hd, z1, z2, z3, z4, o.ok gh ⟨.str _, by simp only [PyData.canLay0, z5]⟩⟩
      | tuple ds =>
        obtain ⟨l, xs, rfl, s1, q1⟩ := hv.tupH gh
        exact ⟨l, _, rfl, hd, z1, z2, z3, z4, o.ok gh ⟨.str _, by simp only [PyData.canLay0, z5]⟩⟩
      | _ => cases z0
    · exact o.elim) t.gl t.mg (by decide +kernel) ha hs
end
end VL
namespace VL
open PySem L2
/-! ### y = x.pop(k), x.pop(k), k a place of x -/
@[simp] def popK (ds : List D) (j : Nat) (env : VEnv) (w : VEnv → D → VEnv) : SV → SR
  | .sh (.int k) => if 0 ≤ k ∧ k < ds.length ∧ ds.length ≤ 1000000 then (match ds[k.toNat]? with
    | some d => .nx (w (env.set j (some (.ow (ds.eraseIdx k.toNat)))) d)
    | none => .stuck) else .stuck
  | _ => .stuck
@[simp] def sPopI (i j : Nat) (g : FE) : FS := fun env => match env[j]? with
  | some (some (.ow ds)) => (match evA [g] env with
    | .val [a] => popK ds j env (fun e d => e.set i (some (.sh d))) a
    | .err c => .err c
    | _ => .stuck)
  | _ => .stuck
@[simp] def sPopX (j : Nat) (g : FE) : FS := fun env => match env[j]? with
  | some (some (.ow ds)) => (match evA [g] env with
    | .val [a] => popK ds j env (fun e _ => e) a
    | .err c => .err c
    | _ => .stuck)
  | _ => .stuck
theorem seqIx {k : Int} {n : Nat} (h0 : 0 ≤ k) (h1 : k < n) : seqIndex? k n = some k.toNat := by
  have c : ¬ k < 0 := by omega
  unfold seqIndex?
  simp only [if_neg c, decide_eq_true h0, decide_eq_true h1, Bool.and_self, if_true]
theorem DqAll.erase {G : Hp} : ∀ {ds : List D} {vs : List V} (n : Nat), DqAll G vs ds → DqAll G (vs.eraseIdx n) (ds.eraseIdx n)
  | [], _, n, h => by rw [h.inv0]; simp; exact .nil
  | _ :: _, _, 0, h => by
    obtain ⟨v, vs', rfl, h1, h2⟩ := h.inv
    exact h2
  | _ :: _, _, n + 1, h => by
    obtain ⟨v, vs', rfl, h1, h2⟩ := h.inv
    exact .cons h1 (h2.erase n)
section
variable {X : Cx} {T : Ct} {EX : XK} {B : Hp × Hp} {e : Expr} {pos : Pos} {f : FE} {G H : Hp} {σ : L2.St} {env : VEnv} {Dn : Ends}
theorem pop_use {w : VEnv → D → VEnv} {wσ : L2.St → V → L2.St} {j : Nat} {ds : List D} (hw : ∀ {G H : Hp} {env : VEnv} {σ : L2.St} {v : V} {d : D}, Sim T B G env σ H → Dq G v d → Sim T B G (w env d) (wσ σ v) H) (S : Sim T B G env σ H) (ei : env[j]? = some (some (.ow ds)))
    (o : OutS T EX B (match evA [f] env with | .val [a] => popK ds j env w a | .err c => .err c | _ => .stuck) G Dn) :
    ∃ p, σ[j]? = some (some (.ref p)) ∧ (∃ xs, SqL X.K H p xs) ∧ rdA T EX B [f] σ H fun vs H1 => rPopAt (.ref p) vs H1 fun v H2 => Dn.nx (wσ σ v) H2 := by
  obtain ⟨p, xs, h1, h2, h3, h4, h5⟩ := S.ow j ds ei
  refine ⟨p, h1, ⟨xs, SqL.of h2⟩, args1 (D := Dn) (K := popK ds j env w) S o fun a v G1 H1 s1 rp S1 o1 => ?_⟩
  unfold popK at o1
  split at o1
  · rename_i k
    split at o1
    · rename_i z
      obtain ⟨z0, z1, z2⟩ := z
      split at o1
      · rename_i d hd
        obtain ⟨h3', h2'⟩ := s1.own h3 h2
        have h5' := h5.mono s1.gg
        obtain ⟨y, hy, dy⟩ := h5'.get hd
        have hv : v = .int k := Dq.intInv rp
        subst hv
        have S2 := S1.write ei h1 (h5'.erase k.toNat)
        exact ⟨p, xs, k, k.toNat, y, rfl, rfl, h2', by omega, by omega, by rw [h5.length]; exact seqIx z0 z1, hy, o1 G1 _ _ (Same.refl _) (hw S2 dy)⟩
      · exact o1.elim
    · exact o1.elim
  · exact o1.elim
theorem vs_popI (i j : Nat) {x y : Str} {px py apos cpos : Pos} (C : Cv X T EX B) (he : VE X T EX B e f) (hN : X.N[j]? = some x := by rfl) (hv : Vis X.env.scope x := by first | exact Or.inl rfl | exact Or.inr (Or.inl rfl) | exact Or.inr (Or.inr rfl)) (hd : (x == ("__debug__" : Str)) = false := by decide) (hcd : (x == ("__classdict__" : Str)) = false := by decide)
    (hline : (apos.endLine == cpos.line) = true := by rfl) (hs : starEach [e] X.env = [(false, eval e X.env)] := by rfl) (hi : X.N[i]? = some y := by rfl) (hx : Loc X.env.scope y := by first | exact .inl rfl | exact .inr rfl) (hf : X.fn y = true ∨ X.env.scope.names.lookup y = some .local := by first | exact .inl rfl | exact .inr rfl) :
    VS X T EX B (.Assign [.Name y py] (.Call (.Attribute (.Name x px) "pop" apos) [e] [] cpos) pos) (sPopI i j f) := by
  refine ps_weak (ps_set C.nd hi hx (pe_bm PySem.F.plainAttrs_list PySem.F.slot_list_pop PySem.F.type_list_pop mt_popAt (pe_var hN hv hd hcd) (va_cons he va_nil hs) rfl (by rw [hs]; rfl) hline hs rfl) rfl hf) fun D σ H q => ?_
  obtain ⟨G, env, S, o⟩ := q
  unfold sPopI at o
  split at o
  · rename_i ds ei
    obtain ⟨p, h1, ⟨xs, sq⟩, z⟩ := pop_use (X := X) (wσ := fun σ v => σ.set i (some v)) (fun S d => S.setSh d) S ei o
    exact ⟨.ref p, h1, .inl ⟨rfl, xs, sq⟩, z⟩
  · exact o.elim
theorem vs_popX (j : Nat) {x : Str} {px apos cpos : Pos} (he : VE X T EX B e f) (hN : X.N[j]? = some x := by rfl) (hv : Vis X.env.scope x := by first | exact Or.inl rfl | exact Or.inr (Or.inl rfl) | exact Or.inr (Or.inr rfl)) (hd : (x == ("__debug__" : Str)) = false := by decide) (hcd : (x == ("__classdict__" : Str)) = false := by decide)
    (hline : (apos.endLine == cpos.line) = true := by rfl) (hs : starEach [e] X.env = [(false, eval e X.env)] := by rfl) :
    VS X T EX B (.Expr (.Call (.Attribute (.Name x px) "pop" apos) [e] [] cpos) pos) (sPopX j f) := by
  refine ps_weak (ps_expr (pe_bm PySem.F.plainAttrs_list PySem.F.slot_list_pop PySem.F.type_list_pop mt_popAt (pe_var hN hv hd hcd) (va_cons he va_nil hs) rfl (by rw [hs]; rfl) hline hs rfl) rfl) fun D σ H q => ?_
  obtain ⟨G, env, S, o⟩ := q
  unfold sPopX at o
  split at o
  · rename_i ds ei
    obtain ⟨p, h1, ⟨xs, sq⟩, z⟩ := pop_use (X := X) (wσ := fun σ _ => σ) (fun S _ => S) S ei o
    exact ⟨.ref p, h1, .inl ⟨rfl, xs, sq⟩, z⟩
  · exact o.elim
end
end VL
namespace VL
open PySem L2
/-! ### the table of counts -/
def spK (a b : Nat) : List Key := [.inl (a : Int), .inl (b : Int)]
theorem nodup_lt : ∀ (n : Nat) (l : List Nat), l.Nodup → (∀ x ∈ l, x < n) → l.length ≤ n
  | 0, [], _, _ => Nat.le_refl _
  | 0, x :: _, _, h => absurd (h x List.mem_cons_self) (by omega)
  | n + 1, l, hn, h => by
    have h1 := nodup_lt n (l.erase n) (hn.erase n) fun x m => by
      have a := h x (List.mem_of_mem_erase m)
      have b : x ≠ n := fun e => by
        subst e
        exact (List.Nodup.not_mem_erase hn) m
      omega
    have h2 := List.length_erase_le (a := n) (l := l)
    by_cases c : n ∈ l
    · rw [List.length_erase_of_mem c] at h1; omega
    · rw [List.erase_of_not_mem c] at h1; omega
theorem memK_nil : MemK [] := ⟨List.nodup_nil, fun _ m => absurd m List.not_mem_nil⟩
theorem memK_val {kvs : List (List Key × V)} (h : MemK kvs) {a b : Nat} {v : V} (e : valV kvs (spK a b) = some v) : v = .int (manyN a b : Nat) := by
  unfold valV at e
  obtain ⟨p, h1, rfl⟩ := Option.map_eq_some_iff.mp e
  have h2 := List.find?_some h1
  simp only [decide_eq_true_eq] at h2
  obtain ⟨x, y, _, _, e1, e2⟩ := h.2 p (List.mem_of_find?_eq_some h1)
  rw [h2] at e1
  unfold spK at e1
  injection e1 with e1 e3
  injection e3 with e3 _
  injection e1 with e1
  injection e3 with e3
  have ex : a = x := by omega
  have ey : b = y := by omega
  subst ex ey
  exact e2
theorem memK_put {kvs : List (List Key × V)} (h : MemK kvs) {a b : Nat} (ha : a ≤ 40) (hb : b ≤ 40) : MemK (putK kvs (spK a b) (.int (manyN a b : Nat))) := by
  unfold putK
  split
  · refine ⟨?_, fun p m => ?_⟩
    · have : (kvs.map fun kv => if kv.1 = spK a b then (kv.1, V.int (manyN a b : Nat)) else kv).map (·.1) = kvs.map (·.1) := by
        rw [List.map_map]
        refine List.map_congr_left fun kv _ => ?_
        simp only [Function.comp]
        split <;> rfl
      rw [this]; exact h.1
    · obtain ⟨kv, m1, rfl⟩ := List.mem_map.mp m
      split
      · rename_i z; exact ⟨a, b, ha, hb, z, rfl⟩
      · exact h.2 kv m1
  · rename_i z
    refine ⟨?_, fun p m => ?_⟩
    · rw [List.map_append]
      refine List.nodup_append.mpr ⟨h.1, by simp, fun x mx y my => ?_⟩
      simp only [List.map_cons, List.map_nil, List.mem_singleton] at my
      subst my
      intro e
      subst e
      obtain ⟨kv, m1, e1⟩ := List.mem_map.mp mx
      exact z (List.any_eq_true.mpr ⟨kv, m1, by simpa using e1⟩)
    · rcases List.mem_append.mp m with m | m
      · exact h.2 p m
      · rw [List.mem_singleton.mp m]; exact ⟨a, b, ha, hb, rfl, rfl⟩
def keyN : List Key → Nat
  | [.inl a, .inl b] => a.toNat * 41 + b.toNat
  | _ => 0
theorem memK_len {kvs : List (List Key × V)} (h : MemK kvs) : kvs.length ≤ 1681 := by
  have e : kvs.length = ((kvs.map (·.1)).map keyN).length := by simp
  rw [e]
  refine nodup_lt 1681 _ ?_ fun x m => ?_
  · refine List.pairwise_map.mpr (h.1.imp_of_mem fun {x y} mx my ne e => ne ?_)
    obtain ⟨p, m1, rfl⟩ := List.mem_map.mp mx
    obtain ⟨q, m2, rfl⟩ := List.mem_map.mp my
    obtain ⟨a, b, ha, hb, e1, _⟩ := h.2 p m1
    obtain ⟨c, d, hc, hd, e2, _⟩ := h.2 q m2
    rw [e1, e2] at e ⊢
    simp only [keyN, Int.toNat_natCast] at e
    have : a = c := by omega
    have : b = d := by omega
    subst_vars; rfl
  · obtain ⟨k, m1, rfl⟩ := List.mem_map.mp m
    obtain ⟨p, m2, rfl⟩ := List.mem_map.mp m1
    obtain ⟨a, b, ha, hb, e1, _⟩ := h.2 p m2
    rw [e1]
    simp only [keyN, Int.toNat_natCast]; omega
@[simp] def sMemo (i j a b : Nat) (f : FE) : FS := fun env => match env[a]?, env[b]?, env[j]? with
  | some (some (.sh (.int x))), some (some (.sh (.int y))), some (some (.ob 101 _)) => if 0 ≤ x ∧ x ≤ 40 ∧ 0 ≤ y ∧ y ≤ 40 ∧ i ≠ j ∧ i < env.length then (match f (env.set i (some (.sh (.tuple [.int x, .int y])))) with
    | .val (.sh (.int v)) => if v = (manyN x.toNat y.toNat : Nat) then .rt (.sh (.int v)) else .stuck
    | _ => .stuck) else .stuck
  | _, _, _ => .stuck
section
variable {X : Cx} {T : Ct} {EX : XK} {B : Hp × Hp} {e : Expr} {f : FE} {G H : Hp} {σ : L2.St} {env : VEnv}
theorem vss_memo (i j a b : Nat) {sp kn ka kb : Str} {p1 p2 p3 p4 p5 p6 p7 p8 p9 q1 q2 q3 q4 q5 q6 q7 q8 : Pos} {x1} (C : Cv X T EX B) (he : VE X T EX B e f)
    (hi : X.N[i]? = some sp := by rfl) (hj : X.N[j]? = some kn := by rfl) (ha : X.N[a]? = some ka := by rfl) (hb : X.N[b]? = some kb := by rfl)
    (hx : Loc X.env.scope sp := by first | exact .inl rfl | exact .inr rfl) (hf : X.fn sp = true ∨ X.env.scope.names.lookup sp = some .local := by first | exact .inl rfl | exact .inr rfl)
    (vi : Vis X.env.scope sp := by first | exact Or.inl rfl | exact Or.inr (Or.inl rfl) | exact Or.inr (Or.inr rfl)) (vj : Vis X.env.scope kn := by first | exact Or.inl rfl | exact Or.inr (Or.inl rfl) | exact Or.inr (Or.inr rfl))
    (va : Vis X.env.scope ka := by first | exact Or.inl rfl | exact Or.inr (Or.inl rfl) | exact Or.inr (Or.inr rfl)) (vb : Vis X.env.scope kb := by first | exact Or.inl rfl | exact Or.inr (Or.inl rfl) | exact Or.inr (Or.inr rfl))
    (di : (sp == ("__debug__" : Str)) = false := by decide) (dj : (kn == ("__debug__" : Str)) = false := by decide) (da : (ka == ("__debug__" : Str)) = false := by decide) (db : (kb == ("__debug__" : Str)) = false := by decide)
    (ci : (sp == ("__classdict__" : Str)) = false := by decide) (cj : (kn == ("__classdict__" : Str)) = false := by decide) (ca : (ka == ("__classdict__" : Str)) = false := by decide) (cb : (kb == ("__classdict__" : Str)) = false := by decide)
    (hs0 : starEach [.Name ka p2, .Name kb p3] X.env = (false, eval (.Name ka p2) X.env) :: starEach [.Name kb p3] X.env := by rfl) (hs1 : starEach [.Name kb p3] X.env = [(false, eval (.Name kb p3) X.env)] := by rfl)
    (sw1 : swapsWith (.Tuple [.Name ka p2, .Name kb p3] x1 p4) (some (.Name sp p1)) q1.line X.env = pure false := by rfl)
    (hns : NoSl (.Name sp q6) := by intro _ _; rfl)
    (sw2 : swapsWith e (some (.Subscript (.Name kn p7) (.Name sp p8) p9)) q3.line X.env = pure false := by rfl) :
    VSs X T EX B [.Assign [.Name sp p1] (.Tuple [.Name ka p2, .Name kb p3] x1 p4) q1, .If (.Compare (.Name sp p5) [.NotIn] [.Name kn p6] q2) [.Assign [.Subscript (.Name kn p7) (.Name sp p8) p9] e q3] [] q4, .Return (some (.Subscript (.Name kn q5) (.Name sp q6) q7)) q8] (sMemo i j a b f) := by
  have hu : X.A.units + 1 < cLine := by have := C.un; omega
  refine pss_weak (pss_cons (ps_set C.nd hi hx (pe_tup (pa_cons (pe_var ha va da ca) (pa_cons (pe_var hb vb db cb) pa_nil hs1) hs0)) sw1 hf)
    (pss_cons (ps_if (pt_cmp (pc_dnotin hu (pe_var hi vi di ci) (pe_var hj vj dj cj))) (pss_one (ps_dput hu (pe_var hj vj dj cj) (pe_var hi vi di ci) he sw2)) pss_nil)
      (pss_one (ps_ret (pe_dget hu (pe_var hj vj dj cj) (pe_var hi vi di ci) hns))))) fun D σ H q => ?_
  obtain ⟨G, env, S, o⟩ := q
  unfold sMemo at o
  split at o
  rotate_left
  · exact o.elim
  rename_i x y fs ea eb ej
  split at o
  rotate_left
  · exact o.elim
  rename_i cn
  obtain ⟨x0, x1', y0, y1, nij, il⟩ := cn
  split at o
  rotate_left
  · exact o.elim
  rename_i v ev
  split at o
  rotate_left
  · exact o.elim
  rename_i hv
  obtain ⟨va', hva, qa⟩ := S.sh a _ ea
  obtain ⟨vb', hvb, qb⟩ := S.sh b _ eb
  have ea' := qa.intInv
  have eb' := qb.intInv
  subst ea' eb'
  obtain ⟨vj', hvj, qj⟩ := S.ob j 101 _ ej
  unfold ObRp at qj
  rw [if_neg (by decide), if_pos rfl] at qj
  obtain ⟨m, tm, rfl⟩ := qj
  obtain ⟨n1, rfl⟩ := Int.eq_ofNat_of_zero_le x0
  obtain ⟨n2, rfl⟩ := Int.eq_ofNat_of_zero_le y0
  simp only [Int.toNat_natCast] at hv
  refine ⟨_, hva, _, hvb, by rw [sizeLine_eq]; simp, fun p hp => ?_⟩
  have ni : i < σ.length := S.len ▸ il
  have si : (σ.set i (some (V.ref p)))[i]? = some (some (.ref p)) := List.getElem?_set_self ni
  have sj : (σ.set i (some (V.ref p)))[j]? = some (some (.ref m)) := by rw [List.getElem?_set_ne nij]; exact hvj
  have st1 : Step G H (upd G p (.tup [.int (n1 : Int), .int (n2 : Int)])) (upd H p (.tup [.int (n1 : Int), .int (n2 : Int)])) := Step.new S.gh hp _
  have S1 : Sim T B (upd G p (.tup [.int (n1 : Int), .int (n2 : Int)])) (env.set i (some (.sh (.tuple [.int (n1 : Int), .int (n2 : Int)])))) (σ.set i (some (.ref p))) (upd H p (.tup [.int (n1 : Int), .int (n2 : Int)])) :=
    (S.step st1).setSh (Dq.tup (SqT.of upd_same) (.cons .int (.cons .int .nil)))
  generalize hH1 : upd H p (.tup [.int (n1 : Int), .int (n2 : Int)]) = H1 at *
  generalize hG1 : upd G p (.tup [.int (n1 : Int), .int (n2 : Int)]) = G1 at *
  have hp1 : H1 p = some (.tup ((spK n1 n2).map kV)) := by rw [← hH1]; exact upd_same
  obtain ⟨om, hm1, mm1⟩ := S1.me m tm
  obtain ⟨kvs, rfl⟩ : ∃ kvs, om = .dT kvs := by
    cases om <;> first | exact ⟨_, rfl⟩ | exact mm1.elim
  refine ⟨_, si, _, sj, m, _, rfl, DGet.t hm1 hp1, _, rfl, ?_⟩
  cases hval : valV kvs (spK n1 n2) with
  | some w =>
    have hw := memK_val mm1 hval
    subst hw
    rw [← hv] at hval
    refine ⟨_, sj, _, si, m, _, rfl, ?_, o (.int v) _ H1 S1.st .int⟩
    rw [← hval]
    exact DGet.t hm1 hp1
  | none =>
    refine ⟨_, _, S1, ?_⟩
    rw [ev]
    intro v' G2 H2 s2 dq
    have e' := dq.intInv
    subst e'
    have S2 := S1.step s2
    obtain ⟨om2, hm2, mm2⟩ := S2.me m tm
    obtain ⟨kvs2, rfl⟩ : ∃ kvs, om2 = .dT kvs := by
      cases om2 <;> first | exact ⟨_, rfl⟩ | exact mm2.elim
    have hp2 : H2 p = some (.tup ((spK n1 n2).map kV)) := s2.hh.at hp1 fun z => z
    have pm : p ≠ m := fun z => by rw [z, hm2] at hp2; cases hp2
    have mk := memK_put mm2 (a := n1) (b := n2) (by omega) (by omega)
    rw [← hv] at mk
    have ln := memK_len mm2
    refine ⟨_, sj, _, si, m, _, rfl, DPut.t hm2 hp2 (by rw [sizeLine_eq]; omega), _, sj, _, si, m, .int v, rfl, ?_, o (.int v) G2 _ (S2.st.trans ⟨fun c u z => ?_, Same.refl _, fun c u z => ?_, fun _ u w => absurd u w, fun n => n⟩) .int⟩
    · have g := DGet.t (H := upd H2 m (.dT (putK kvs2 (spK n1 n2) (.int v)))) (a := m) (b := p) (k := spK n1 n2) upd_same (by rw [upd_ne pm]; exact hp2)
      rw [valV_put, if_pos rfl] at g
      exact g
    · by_cases y : c = m
      · subst y
        rw [hm2] at z
        cases z
        exact ⟨_, upd_same, .inr ⟨mm2, mk⟩⟩
      · exact ⟨u, by rw [upd_ne y]; exact z, .inl rfl⟩
    · have y : c ≠ m := fun y => by
        have := S2.gh c u z
        rw [y, hm2] at this
        cases this
        exact S2.st.nm S2.nb c _ z mm2
      rw [upd_ne y]; exact S2.gh c u z
end
end VL
namespace VL
open PySem L2
/-! ### f(.., {}): a call that is handed a new table -/
@[simp] def noOb : SV → Bool
  | .ob _ _ => false
  | _ => true
@[simp] def calM (n : Nat) (m : List SV → R) (fs : List FE) : FE := fun env => (evA fs env).b fun as => if as.length + 1 = n ∧ as.all noOb = true then (match m (as ++ [.ob 101 []]) with
  | .val (.ob _ _) => .stuck
  | .val (.rg _) => .stuck
  | r => r) else .stuck
section
variable {X : Cx} {T : Ct} {EX : XK} {B : Hp × Hp} {e : Expr} {es : List Expr} {pos p : Pos} {f : FE} {fs : List FE} {G H : Hp} {Q : VK}
def rdM (T : Ct) (EX : XK) (B : Hp × Hp) (fs : List FE) : TA := fun σ H Q => rdA T EX B fs σ H fun vs H1 => ∀ q, H1 q = none → Q (vs ++ [.ref q]) (upd H1 q (.dT []))
def VM (X : Cx) (T : Ct) (EX : XK) (B : Hp × Hp) (es : List Expr) (fs : List FE) : Prop := PA X es (rdM T EX B fs)
theorem rda_nil {σ : L2.St} {Q : List V → Hp → Prop} (h : rdA T EX B [] σ H Q) : Q [] H := by
  obtain ⟨G, env, S, o⟩ := h
  exact o [] G H (Step.refl S.gh) .nil
theorem vm_last (hs : starEach [.Dict [] [] p] X.env = [(false, eval (.Dict [] [] p) X.env)] := by rfl) : VM X T EX B [.Dict [] [] p] [] :=
  pa_weak (pa_cons pe_dnewT pa_nil hs) fun σ H Q q => fun r hr => rda_nil q r hr
theorem vm_cons (h : VE X T EX B e f) (hr : VM X T EX B es fs) (hs : starEach (e :: es) X.env = (false, eval e X.env) :: starEach es X.env := by rfl) : VM X T EX B (e :: es) (f :: fs) :=
  pa_weak (pa_cons h hr hs) fun σ H Q q => rdA_cons q
theorem all_other {T' : Ct} (h1 : T.ad = T'.ad) (h2 : T.fl = T'.fl) : ∀ {vs : List V} {as : List SV}, VRpAll T G vs as → as.all noOb = true → VRpAll T' G vs as
  | _, _, .nil, _ => .nil
  | _, a :: _, .cons h t, n => by
    simp only [List.all_cons, Bool.and_eq_true] at n
    refine .cons ?_ (all_other h1 h2 t n.2)
    cases a with
    | sh d => exact h
    | ow _ => exact h
    | rg _ => exact h.elim
    | ob _ _ => exact absurd n.1 (by simp)
theorem all_snoc {v : V} {a : SV} : ∀ {vs : List V} {as : List SV}, VRpAll T G vs as → VRp T G v a → VRpAll T G (vs ++ [v]) (as ++ [a])
  | _, _, .nil, h => .cons h .nil
  | _, _, .cons x t, h => .cons x (all_snoc t h)
def FnM (P : Program) (w : World) (K : PySem.W.Frag) (mg : Str → Option Value) (base : Heap) (T : Ct) (k : Nat) (x : Str) (n : Nat) (m : List SV → R) : Prop :=
  ∃ f fd ps, (∀ me : Addr, FnGd P w K mg base (L2.CX P w) k f fd ps (spV { T with me := some me } n m)) ∧ mg x = some (.ref f) ∧ PySem.W.keepIn K (.ref f) = true ∧ Binds K fd ps []
theorem ve_callM {x : Str} {n k : Nat} {m : List SV → R} (F : FnM X.prog X.w X.K X.mg X.base T k x n m) (hr : Room k X.A) (hg : Gl X x) (C : Cv X T EX B) (ha : VM X T EX B (e :: es) fs)
    (hd : (x == ("__debug__" : Str)) = false := by decide) (hs : starEach (e :: es) X.env = (false, eval e X.env) :: starEach es X.env := by rfl) (hpl : ((backTo pos (starEach es X.env)).any fun z => z.1) = false := by rfl) :
    VE X T EX B (.Call (.Name x p) (e :: es) [] pos) (calM n m fs) := by
  obtain ⟨f, fd, ps, F, hm, hk, hb⟩ := F
  have F2 : FnGd X.prog X.w X.K X.mg X.base (L2.CX X.prog X.w) k f fd ps (fun vs H Q E => ∃ me : Addr, spV { T with me := some me } n m vs H Q E) :=
    ⟨fun xs H Q E ⟨me, h⟩ => (F me).ln xs H Q E h, fun A ou s H ar us xs Q E g r e0 b v ⟨me, h⟩ => (F me).go A ou s H ar us xs Q E g r e0 b v h⟩
  refine pe_weak (pe_callG (E := fun _ => EX) F2 C.gd hr hg hm hk hb (fun σ pn H s e s' => C.pass pn σ H s e s') ha hd hs hpl) fun σ H Q q => ?_
  obtain ⟨G, env, S, o⟩ := q
  refine args_seq S o fun vs as G1 H1 s1 rp S1 o1 r hq => ?_
  split at o1
  rotate_left
  · exact o1.elim
  rename_i c
  have st : Step G1 H1 G1 (upd H1 r (.dT [])) := Step.apart S1.gh hq _
  refine ⟨r, G1, as ++ [.ob 101 []], st.gh, S1.st.nm S1.nb, fun b z => ?_, all_snoc (all_other (T := T) (T' := { T with me := some r }) rfl rfl rp c.2) ?_, by rw [List.length_append]; exact c.1, ?_⟩
  · cases z; exact ⟨_, upd_same, memK_nil⟩
  · show ObRp _ _ _ _ _
    unfold ObRp
    rw [if_neg (by decide), if_pos rfl]
    exact ⟨r, rfl, rfl⟩
  · revert o1
    cases m (as ++ [.ob 101 []]) with
    | stuck => exact fun o1 => o1
    | err e => exact fun o1 H' z => o1 H' (st.hh.trans z)
    | val w =>
      cases w with
      | ob _ _ => exact fun o1 => o1.elim
      | sh d => exact fun o1 => Out.step o1 st
      | ow ds => exact fun o1 => Out.step o1 st
      | rg r => exact fun o1 => o1.elim
end
section
variable {P : Program} {w : World} {K : PySem.W.Frag} {mg : Str → Option Value} {base : Heap} {T : Ct}
theorem fnM_mk {x q : Str} {st : Stmt} {N ps : List Str} {k : Nat} {s : FS} (d : Df K mg x q st ps) (S : FnScope N ps (defScope st)) (hb : ∀ me : Addr, Bd P w K mg base { T with me := some me } k N q st s) : FnM P w K mg base T (k + 1) x ps.length (runB N.length s) := by
  obtain ⟨f, fd, F, hm, hbi⟩ := d
  exact ⟨f, fd, ps, fun me => fn_ok F S fun cdv A outer s0 H E B hr C po tk => hb me f cdv A outer s0 H E B hr C po tk, hm, F.kp, hbi⟩
theorem fnM_zero {x q : Str} {st : Stmt} {ps : List Str} {n : Nat} {m : List SV → R} (d : Df K mg x q st ps) (h : m = fun _ => .stuck) : FnM P w K mg base T 0 x n m := by
  obtain ⟨f, fd, F, hm, hbi⟩ := d
  subst h
  refine ⟨f, fd, ps, fun me => ?_, hm, F.kp, hbi⟩
  have no : ∀ vs H Q E, ¬ spV { T with me := some me } n (fun _ => .stuck) vs H Q E := fun vs H Q E ⟨_, _, _, _, _, _, _, o⟩ => o
  exact ⟨fun vs H Q E h => absurd h (no vs H Q E), fun A outer s H args us vs Q E _ _ _ _ _ h => absurd h (no vs H Q E)⟩
end
end VL
namespace VL
open PySem L2
/-! ### sorted, >= of data that can be compared -/
def leD (d e : D) : Bool := PySem.W.dataLe false id d e
def alikeB (ds : List D) : Bool := ds.all fun d => ds.all fun e => PySem.W.alike d e
@[simp] def plainB : D → Bool
  | .none => false
  | .tuple _ => false
  | _ => true
@[simp] def fSortedD : D → R
  | .list ds => if alikeB ds = true ∧ ds.all plainB = true ∧ ds.all (fun d => decide (d.depth ≤ 60)) = true then .val (.ow (ds.mergeSort leD)) else .stuck
  | _ => .stuck
@[simp] def fGeD (d e : D) : R := if PySem.W.alike d e = true ∧ plainB d = true ∧ d.depth ≤ 60 then rb (!PySem.W.dataLt d e) else .stuck
section
variable {X : Cx} {T : Ct} {EX : XK} {B : Hp × Hp} {a : Expr} {pos p : Pos} {f : FE} {G H : Hp} {Q : VK}
theorem each_dq {pins : List (Addr × Obj)} {σ : L2.St} {s : Shared} (I : Inv X pins σ H s) : ∀ {ds : List D} {xs : List V} {us : List Value}, DqAll H xs ds → Vals xs us → PySem.W.EachIs (fun u (b : V × D) => RelV b.1 u ∧ ∃ as, Reads s.heap u b.2 as) us (xs.zip ds)
  | [], _, _, q, r => by
    rw [q.inv0] at r ⊢
    cases r; exact .nil
  | d :: ds, _, _, q, r => by
    obtain ⟨v, vs, rfl, q1, q2⟩ := q.inv
    cases r with
    | cons r1 r2 => exact .cons ⟨r1, Dp.reads I d v _ q1.K r1⟩ (each_dq I q2 r2)
theorem vals_each : ∀ {us : List Value} {bs : List (V × D)}, PySem.W.EachIs (fun u (b : V × D) => RelV b.1 u) us bs → Vals (bs.map Prod.fst) us
  | _, _, .nil => .nil
  | _, _, .cons h t => .cons h (vals_each t)
theorem dq_pairs : ∀ {bs : List (V × D)}, (∀ b ∈ bs, Dq G b.1 b.2) → DqAll G (bs.map Prod.fst) (bs.map Prod.snd)
  | [], _ => .nil
  | b :: bs, h => .cons (h b List.mem_cons_self) (dq_pairs fun c m => h c (List.mem_cons_of_mem _ m))
theorem dq_zip : ∀ {ds : List D} {xs : List V}, DqAll G xs ds → ∀ b ∈ xs.zip ds, Dq G b.1 b.2
  | [], _, q, b, m => by rw [q.inv0] at m; simp at m
  | d :: ds, _, q, b, m => by
    obtain ⟨v, vs, rfl, q1, q2⟩ := q.inv
    rw [List.zip_cons_cons] at m
    rcases List.mem_cons.mp m with rfl | m
    · exact q1
    · exact dq_zip q2 b m
def rSortedD : List V → Hp → VK → Prop := fun vs H Q => ∃ (l : Addr) (xs : List V) (ds : List D), vs = [.ref l] ∧ SqL [] H l xs ∧ DqAll H xs ds ∧ alikeB ds = true ∧ ds.all plainB = true ∧ (∀ d ∈ ds, d.depth ≤ 60) ∧
  ∀ p, H p = none → Q (.ref p) (upd H p (.lst (((xs.zip ds).mergeSort (PySem.W.dataLe false Prod.snd)).map Prod.fst)))
theorem cr_sortedD (hu : X.A.units + 150 < cLine) : CallR X (.builtin "sorted") rSortedD := by
  intro pins s σ H vs us Q I r h
  obtain ⟨l, xs, ds, rfl, hs, dq, h1, h2, h3, q⟩ := h
  obtain ⟨its, rv, hl, hz⟩ := I.list (sqL_K hs)
  rw [Vals.ref1 r]
  have e := each_dq I dq rv
  have zl : (xs.zip ds).length = xs.length := by rw [List.length_zip, dq.length]; omega
  have zd : (xs.zip ds).map Prod.snd = ds := List.map_snd_zip (by rw [dq.length]; exact Nat.le_refl _)
  refine PySem.W.sorted_data (R := fun u (b : V × D) => RelV b.1 u) (bs := xs.zip ds) (enc := Prod.snd) hl.isList (e.mono fun _ _ z => z.1) (e.mono fun _ _ z => z.2) ?_ ?_ (by rw [zl]; exact hz) (fun b m => ?_) fun out hlo eo => ?_
  · rw [zd]
    intro d hd d' hd'
    exact List.all_eq_true.mp (List.all_eq_true.mp h1 d hd) d' hd'
  · rw [zd]
    refine .inr fun d hd => ?_
    have := List.all_eq_true.mp h2 d hd
    cases d <;> first | (simp at this; done) | exact ⟨fun z => (by cases z), fun xs z => by cases z⟩
  · have := h3 b.2 (by rw [← zd]; exact List.mem_map.mpr ⟨b, m, rfl⟩)
    omega
  · obtain ⟨ep, he'⟩ := PyProof.Rows.sortedAll_at s.heap its out.toArray
    have rv' := vals_each eo
    refine ⟨.ref _, upd H (s.heap.objs.size + 1) (.lst (((xs.zip ds).mergeSort (PySem.W.dataLe false Prod.snd)).map Prod.fst)), I.laid (t' := s.toks) (fun _ _ => PyProof.Rows.sortedAll_old) (Nat.le_succ _) ⟨?_, out, ep, rv', he'⟩, rfl, q _ (I.hok.fresh (Nat.le_succ _))⟩
    rw [List.length_map, List.length_mergeSort, zl]; exact hz
theorem ve_sortedD (C : Cv X T EX B) (t : Bt X "sorted") (ha : VE X T EX B a f) (hs : starEach [a] X.env = [(false, eval a X.env)] := by rfl) : VE X T EX B (.Call (.Name "sorted" p) [a] [] pos) (cal1 fSortedD f) :=
  ve_cal1 (cr_sortedD C.un) (fun Q v d G H gh hv o => by
    unfold fSortedD at o
    split at o
    · rename_i ds
      split at o
      · rename_i c
        obtain ⟨c1, c2, c3⟩ := c
        obtain ⟨l, xs, rfl, s1, q1⟩ := hv.lstH gh
        refine ⟨l, xs, ds, rfl, s1, q1.mono gh, c1, c2, fun d m => by simpa using List.all_eq_true.mp c3 d m, ?_⟩
        have em : ((xs.zip ds).mergeSort (PySem.W.dataLe false Prod.snd)).map Prod.snd = ds.mergeSort leD := by
          rw [List.map_mergeSort (r := PySem.W.dataLe false Prod.snd) (s := leD) (f := Prod.snd) (fun a _ b _ => rfl), List.map_snd_zip (by rw [q1.length]; exact Nat.le_refl _)]
        rw [← em] at o
        refine o.newL gh (dq_pairs fun b m => dq_zip q1 b ((List.mergeSort_perm _ _).mem_iff.mp m))
      · exact o.elim
    · exact o.elim) t.gl t.mg (by decide +kernel) ha hs
theorem c_geD (C : Cv X T EX B) : Cmp X T EX .GtE fGeD (fun x y H Q => ∃ d e, Dq H x d ∧ Dq H y e ∧ PySem.W.alike d e = true ∧ d ≠ .none ∧ d.depth ≤ 60 ∧ Q (.bl (!PySem.W.dataLt d e)) H) := by
  refine ⟨fun pins s σ H x y v u Q I rx ry h => ?_, fun Q x y dx dy G H gh hx hy o => ?_⟩
  · obtain ⟨d, e, hd, he, al, nn, dp, q⟩ := h
    obtain ⟨as, r1⟩ := Dp.reads I d x v hd.K rx
    obtain ⟨bs, r2⟩ := Dp.reads I e y u he.K ry
    exact PySem.W.ge_data r1 r2 al nn (by have := C.un; omega) ⟨.bl _, H, I, rfl, q⟩
  · unfold fGeD at o
    split at o
    · rename_i c
      exact ⟨dx, dy, hx.mono gh, hy.mono gh, c.1, fun z => by subst z; simp at c, c.2.2, o.rb gh⟩
    · exact o.elim
end
end VL
namespace VL
open PySem L2
/-! ### own classes -/
/-- what the top says of the class x, by its number c -/
structure Oc (K : PySem.W.Frag) (mg : Str → Option Value) (T : Ct) (x : Str) (c : Nat) : Prop where
  mgC : mg x = some (.ref (T.ad c))
  fl : T.fl c = clsFlds c
  cl : Cls K (T.ad c)
  na : ∀ f ∈ clsFlds c, NoAttr K (T.ad c) f
  ha : PySem.W.findIn K (.ref (T.ad c)) "__class__" = some (some (.builtin "object.__class__"))
  hn : PySem.W.specialIn K (.builtin "object.__class__") "__get__" = some (some (.builtin "getset_descriptor.__get__"))
  ht : PySem.W.takesIn K (.builtin "object.__class__") = some true
  hm : PySem.W.mroIn K (T.ad c) (.type "object") = some true
  mks : PySem.W.makesIn K (T.ad c) = true
  kp : PySem.W.keepIn K (.ref (T.ad c)) = true
/-- o.f of an object of class c: its j-th field -/
@[simp] def vAt (c j : Nat) (f : FE) : FE := fun env => (f env).v fun a => match a with
  | .ob c' fs => if c' = c then (match fs[j]? with
    | some d => ok d
    | none => .stuck) else .stuck
  | _ => .stuck
/-- isinstance(o, C), C an own class: by the class's number -/
@[simp] def vIsO (t : Nat → Bool) (f : FE) : FE := fun env => (f env).v fun a => match a with
  | .ob c _ => if c ≤ 2 then rb (t c) else .stuck
  | _ => .stuck
/-- o.m(..) -/
@[simp] def vMet (n : Nat) (ms : Nat → List SV → R) (f : FE) (gs : List FE) : FE := fun env => (f env).v fun a => match a with
  | .ob c fs => if c ≤ 2 then (evA gs env).b (fun as => if as.length + 1 = n then ms c (.ob c fs :: as) else .stuck) else .stuck
  | _ => .stuck
theorem zip_lookup {α : Type} : ∀ {fs : List Str} {vs : List α} {j : Nat} {x : Str} {v : α}, fs.Nodup → fs[j]? = some x → vs[j]? = some v → (fs.zip vs).lookup x = some v
  | [], _, _, _, _, _, h, _ => by simp at h
  | _ :: _, [], _, _, _, _, _, h => by simp at h
  | f :: fs, w :: vs, 0, x, v, nd, h1, h2 => by
    simp at h1 h2
    subst h1 h2
    rw [List.zip_cons_cons, List.lookup_cons]
    simp
  | f :: fs, w :: vs, j + 1, x, v, nd, h1, h2 => by
    have h1 : fs[j]? = some x := by simpa using h1
    have h2 : vs[j]? = some v := by simpa using h2
    have nd' := List.nodup_cons.mp nd
    rw [List.zip_cons_cons, List.lookup_cons]
    have : (x == f) = false := by
      rw [beq_eq_false_iff_ne]
      exact fun e => nd'.1 (e ▸ List.mem_of_getElem? h1)
    rw [this]
    exact zip_lookup nd'.2 h1 h2
theorem zip_none {α : Type} : ∀ {fs : List Str} {vs : List α} {x : Str}, x ∉ fs → (fs.zip vs).lookup x = none
  | [], _, _, _ => by simp
  | _ :: _, [], _, _ => by simp
  | f :: fs, w :: vs, x, h => by
    rw [List.zip_cons_cons, List.lookup_cons]
    have : (x == f) = false := by
      rw [beq_eq_false_iff_ne]
      exact fun e => h (e ▸ List.mem_cons_self)
    rw [this]
    exact zip_none fun m => h (List.mem_cons_of_mem _ m)
theorem ObRp.inv {T : Ct} {G : Hp} {v : V} {c : Nat} {fs : List D} (h : ObRp T G v c fs) (hc : c < 100) : ∃ a dx vs, v = .ref a ∧ G a = some (.ins (T.ad c) dx ((T.fl c).zip vs)) ∧ G dx = some (.own a) ∧ vs.length = (T.fl c).length ∧ DqAll G vs fs := by
  unfold ObRp at h
  rwa [if_neg (by omega), if_neg (by omega), if_neg (by omega), if_neg (by omega)] at h
section
variable {X : Cx} {T : Ct} {EX : XK} {B : Hp × Hp} {e a b c o tg : Expr} {es : List Expr} {pos p p2 apos : Pos} {f g h : FE} {fs gs : List FE} {G H G1 H1 : Hp} {Q : VK} {σ : L2.St} {env : VEnv}
theorem ve_at (c j : Nat) {x fn : Str} (oc : Oc X.K X.mg T x c) (ha : VE X T EX B a f) (hf : (clsFlds c)[j]? = some fn := by rfl) (hc : c < 100 := by decide) (nd : (clsFlds c).Nodup := by decide +kernel) (hb : attributeBase a fn X.env (eval a X.env) = eval a X.env := by rfl) :
    VE X T EX B (.Attribute a fn pos) (vAt c j f) := pe_weak (pe_fld ha hb) fun σ H Q q => by
  obtain ⟨G, env, S, o⟩ := q
  refine rdV_mono (seqV S o) fun v H1 ⟨w, G1, s, rp, S1, o1⟩ => ?_
  split at o1
  · rename_i c' fs
    split at o1
    · rename_i ec
      subst ec
      split at o1
      · rename_i d ed
        obtain ⟨a', dx, vs, rfl, e1, e2, l, dq⟩ := ObRp.inv rp hc
        obtain ⟨u, eu, du⟩ := dq.get ed
        exact ⟨a', _, dx, _, u, rfl, S1.gh _ _ e1, oc.cl, oc.na fn (List.mem_of_getElem? hf), zip_lookup (by rw [oc.fl]; exact nd) (by rw [oc.fl]; exact hf) eu, o1.ok S1.gh du⟩
      · exact o1.elim
    · exact o1.elim
  · exact o1.elim
/-- the class D asked for, with its answers -/
def OkI (K : PySem.W.Frag) (mg : Str → Option Value) (T : Ct) (x : Str) (t : Nat → Bool) : Prop := ∃ D, mg x = some (.ref D) ∧ ∀ c, c ≤ 2 → PySem.W.kitOne K (.ref (T.ad c)) (.ref D) = some (t c)
def Oc3 (K : PySem.W.Frag) (mg : Str → Option Value) (T : Ct) : Prop := ∀ c, c ≤ 2 → ∃ x, Oc K mg T x c
theorem oc3 {K : PySem.W.Frag} {mg : Str → Option Value} {T : Ct} {x y z : Str} (h0 : Oc K mg T x 0) (h1 : Oc K mg T y 1) (h2 : Oc K mg T z 2) : Oc3 K mg T := fun c hc => by
  have : c = 0 ∨ c = 1 ∨ c = 2 := by omega
  rcases this with rfl | rfl | rfl
  · exact ⟨_, h0⟩
  · exact ⟨_, h1⟩
  · exact ⟨_, h2⟩
theorem ve_isO {d : Str} {t : Nat → Bool} {p1 : Pos} (ocs : Oc3 X.K X.mg T) (ok : OkI X.K X.mg T d t) (bi : Bt X "isinstance") (hg : Gl X d) (ha : VE X T EX B a f)
    (hs : starEach [a, .Name d p1] X.env = (false, eval a X.env) :: starEach [.Name d p1] X.env := by rfl) (hd : (d == ("__debug__" : Str)) = false := by decide) : VE X T EX B (.Call (.Name "isinstance" p) [a, .Name d p1] [] pos) (vIsO t f) := by
  obtain ⟨D, hD, hk⟩ := ok
  refine pe_weak (pe_callB call_isi bi.gl bi.mg PyProof.Rows.boot_isinstance (pa_cons ha (pa_cons (pe_glob (v := .ref D) hg hD rfl hd) pa_nil rfl) hs) (by decide) (by decide) hs rfl) fun σ H Q q => ?_
  obtain ⟨G, env, S, o⟩ := q
  refine rdV_mono (seqV S o) fun v H1 ⟨w, G1, s, rp, S1, o1⟩ => ?_
  split at o1
  · rename_i c fs
    split at o1
    · rename_i hc
      obtain ⟨x, oc⟩ := ocs c hc
      obtain ⟨a', dx, vs, rfl, e1, e2, l, dq⟩ := ObRp.inv rp (by omega)
      exact ⟨_, .ref D, .ref (T.ad c), .ref D, t c, rfl, .own D, .base (.ins (S1.gh _ _ e1) oc.cl oc.ha oc.hn oc.ht oc.hm), hk c hc, o1.rb S1.gh⟩
    · exact o1.elim
  · exact o1.elim
/-! ### methods -/
def FnSh (P : Program) (w : World) (K : PySem.W.Frag) (mg : Str → Option Value) (base : Heap) (T : Ct) (k : Nat) (m : Str) (n : Nat) (ms : Nat → List SV → R) : Prop :=
  ∀ c, c ≤ 2 → ∃ f fd ps, FnGd P w K mg base (L2.CX P w) k f fd ps (spV T n (ms c)) ∧ Meth K (T.ad c) m f ∧ Binds K fd ps []
def tMethD (T : Ct) (m : Str) (sp : Nat → Sp) (E : L2.St → XK) (ta : TE) (t : TA) : TE := fun σ H Q => ta σ H fun x H1 => ∃ c a dx fs, c ≤ 2 ∧ x = .ref a ∧ H1 a = some (.ins (T.ad c) dx fs) ∧ fs.lookup m = none ∧ t σ H1 fun vs H2 => sp c (x :: vs) H2 Q (E σ)
theorem pe_methD {k : Nat} {m : Str} {ta : TE} {t : TA} {sp : Nat → Sp} {CX : CXT} {E : L2.St → XK} {pl : Sem Bool} (he : PE X o ta) (ocs : Oc3 X.K X.mg T) (Fs : ∀ c, c ≤ 2 → ∃ f fd ps, FnGd X.prog X.w X.K X.mg X.base CX k f fd ps (sp c) ∧ Meth X.K (T.ad c) m f ∧ Binds X.K fd ps [])
    (hq : X.A.guards = some []) (hr : Room k X.A) (hx : ∀ σ, PassesAt CX X σ (E σ)) (ha : PA X (e :: es) t)
    (hst : starEach (e :: es) X.env = (false, eval e X.env) :: starEach es X.env := by rfl) (hpl : (backTo pos (starEach es X.env)).any (·.1) = false := by rfl)
    (ht : eval (.Call (.Attribute o m apos) (e :: es) [] pos) X.env = (do
      let ov ← eval o X.env
      standAt apos.atName
      let (f, first) ← holding [ov] (getMethod ov m pl)
      callWith pos f first (backTo pos (starEach (e :: es) X.env)) (backToKw pos (keywordEach [] X.env))) := by rfl) :
    PE X (.Call (.Attribute o m apos) (e :: es) [] pos) (tMethD T m sp E ta t) := by
  refine ⟨fun pins s σ H Q I h => ?_⟩
  refine PySem.W.methodCall_KW (pl := pl) (thn (he.run pins s σ H _ I h) fun u s1 ⟨x, H1, I1, rx, c, a, dx, fs, hc, ex, ea, l, q⟩ => ?_) ht
  subst ex
  obtain rfl : u = Value.ref a := rx
  obtain ⟨f, fd, ps, F, hm, hb⟩ := Fs c hc
  obtain ⟨_, oc⟩ := ocs c hc
  refine getmeth_ok I1 ea oc.cl hm l ?_
  refine PySem.W.callWith_K (first := [.ref a]) (h₀ := X.base) I.ok.mod.kin hm.kp (thn (ha.run pos pins s1 σ H1 _ I1 q) fun us s2 ⟨vs, H2, I2, r, q2⟩ => ⟨I2.kIn, ?_⟩) hst hpl
  exact go_in (us := .ref a :: us) (xs := .ref a :: vs) F hq hr hb (hx σ) I2 (.cons rfl r) q2
theorem noflds (c : Nat) : ("shows" : Str) ∉ clsFlds c := by
  match c with
  | 0 => decide +kernel
  | 1 => decide +kernel
  | _ + 2 => show ("shows" : Str) ∉ (["heap", "ways"] : List Str); decide +kernel
theorem ve_met {k n : Nat} {ms : Nat → List SV → R} {pl : Sem Bool} (ocs : Oc3 X.K X.mg T) (Fs : FnSh X.prog X.w X.K X.mg X.base T k "shows" n ms) (hr : Room k X.A) (C : Cv X T EX B) (he : VE X T EX B o f) (ha : VA X T EX B (e :: es) gs)
    (hst : starEach (e :: es) X.env = (false, eval e X.env) :: starEach es X.env := by rfl) (hpl : (backTo pos (starEach es X.env)).any (·.1) = false := by rfl)
    (ht : eval (.Call (.Attribute o "shows" apos) (e :: es) [] pos) X.env = (do
      let ov ← eval o X.env
      standAt apos.atName
      let (f, first) ← holding [ov] (getMethod ov "shows" pl)
      callWith pos f first (backTo pos (starEach (e :: es) X.env)) (backToKw pos (keywordEach [] X.env))) := by rfl) :
    VE X T EX B (.Call (.Attribute o "shows" apos) (e :: es) [] pos) (vMet n ms f gs) := by
  refine pe_weak (pe_methD (sp := fun c => spV T n (ms c)) (E := fun _ => EX) he ocs Fs C.gd hr (fun σ pn H s e s' => C.pass pn σ H s e s') ha hst hpl ht) fun σ H Q q => ?_
  obtain ⟨G, env, S, o⟩ := q
  refine rdV_mono (seqV S o) fun v H1 ⟨w, G1, s, rp, S1, o1⟩ => ?_
  split at o1
  rotate_left
  · exact o1.elim
  rename_i c fs
  split at o1
  rotate_left
  · exact o1.elim
  rename_i hc
  obtain ⟨a', dx, vs, rfl, e1, e2, l, dq⟩ := ObRp.inv rp (by omega)
  obtain ⟨_, oc⟩ := ocs c hc
  refine ⟨c, a', dx, _, hc, rfl, S1.gh _ _ e1, zip_none (by rw [oc.fl]; exact noflds c), args_seq S1 o1 fun vs as G2 H2 s2 rp2 S2 o2 => ?_⟩
  split at o2
  · rename_i z
    exact ⟨G2, .ob c fs :: as, S2.gh, S2.st.nm S2.nb, S2.me, .cons (ObRp.mono rp s2.gg) rp2, z, o2⟩
  · exact o2.elim
end
end VL
namespace VL
open PySem L2
/-! ### objects are made -/
/-- what __init__ promises: the new object's fields, new lists of their own among them -/
def spN (T : Ct) (c : Nat) (mk : List D → Option (List RD)) : Sp := fun vs H Q E => ∃ x dx G ys ds rs, vs = .ref x :: ys ∧ H x = some (.ins (T.ad c) dx []) ∧ H dx = some (.own x) ∧ Same G H ∧ G x = none ∧ DqAll G ys ds ∧ mk ds = some rs ∧ ys.length + 1 = (T.fl c).length + 1 ∧
  ∀ S us H', (∀ b o, b ≠ x → H b = some o → H' b = some o) → H' x = some (.ins (T.ad c) dx ((T.fl c).zip us)) → us.length = (T.fl c).length → S.Nodup → (∀ a ∈ S, H a = none) → RRpAll T G H' S us rs → Q .non H'
@[simp] def newM (c : Nat) (mk : List D → Option (List RD)) : List SV → R := fun as => match dats as with
  | some ds => (match mk ds with
    | some rs => if ds.length = (clsFlds c).length then .val (.rg (.ins c rs)) else .stuck
    | none => .stuck)
  | none => .stuck
@[simp] def asLst : D → Option (List D)
  | .list ds => some ds
  | _ => none
@[simp] def asLsts : List D → Option (List (List D))
  | [] => some []
  | d :: r => match asLst d, asLsts r with
    | some x, some y => some (x :: y)
    | _, _ => none
@[simp] def mk1 : List D → Option (List RD)
  | [.list ds] => some [.lst (ds.map .dat)]
  | _ => none
def lstR (ds : List D) : RD := .lst (ds.map .dat)
@[simp] def mk2 : List D → Option (List RD)
  | [h, .list ws] => if ws.length ≤ 100000 then (asLsts ws).map fun wss => [.dat h, .lst (wss.map lstR)] else none
  | _ => none
theorem toDs_dat : ∀ ds : List D, RD.toDs (ds.map .dat) = some ds
  | [] => by simp only [List.map_nil, RD.toDs]
  | d :: r => by simp only [List.map_cons, RD.toDs, RD.toD, toDs_dat r]
theorem toDs_lstR : ∀ wss : List (List D), RD.toDs (wss.map lstR) = some (wss.map .list)
  | [] => by simp only [List.map_nil, RD.toDs]
  | d :: r => by simp only [List.map_cons, RD.toDs, lstR, RD.toD, toDs_dat d, Option.map_some]; rw [show (r.map lstR) = r.map lstR from rfl, toDs_lstR r]
theorem dats_rrp {T : Ct} {G H : Hp} : ∀ {ds : List D} {xs : List V}, DqAll G xs ds → RRpAll T G H [] xs (ds.map .dat)
  | [], _, q => by rw [q.inv0]; exact .nil
  | d :: ds, _, q => by
    obtain ⟨v, vs, rfl, q1, q2⟩ := q.inv
    exact .cons (S := []) (S' := []) (.dat q1) (dats_rrp q2)
theorem RRpAll.snoc {T : Ct} {G H : Hp} {S' : List Addr} {v : V} {r : RD} (h : RRp T G H S' v r) : ∀ {rs : List RD} {S : List Addr} {vs : List V}, RRpAll T G H S vs rs → RRpAll T G H (S ++ S') (vs ++ [v]) (rs ++ [r])
  | _, _, _, .nil => by simpa using RRpAll.cons h .nil
  | _, _, _, .cons a b => by
    rw [List.append_assoc, List.cons_append, List.cons_append]
    exact .cons a (RRpAll.snoc h b)
section
variable {X : Cx} {CX : CXT} {k : Nat} {f C : Addr} {fd : FuncData} {ps : List Str} {sp : Sp} {x m : Str} {p pos apos : Pos} {e o : Expr} {es : List Expr} {ta : TE} {t : TA} {E : L2.St → XK}
theorem run_makeG {pins : List (Addr × Obj)} {σ : L2.St} {H : Hp} {s : Shared} {Q : VK} {us : List Value} {vs : List V} (M : Mk X.K C f) (F : FnGd X.prog X.w X.K X.mg X.base CX k f fd ps sp) (hq : X.A.guards = some []) (hr : Room (k + 1) X.A) (hb : Binds X.K fd ps [])
    (hx : PassesAt CX X σ (E σ)) (hxm : ∀ pins H s e s', Inv X pins σ H s → CX X.stack H s (E σ) e s' → X.xe e s') (I : Inv X pins σ H s) (r : Vals vs us)
    (h : ∀ x dx, H x = none → H dx = none → dx ≠ x → sp (.ref x :: vs) (upd (upd H dx (.own x)) x (.ins C dx [])) (fun v H2 => v = .non ∧ Q (.ref x) H2) (E σ)) :
    wpAny (model X.prog X.w) X.A (call (.ref C) us) (EP X pins σ Q) X.xe s := by
  have hz := h (s.heap.objs.size + 1) s.heap.objs.size (I.hok.fresh (Nat.le_succ _)) (I.hok.fresh (Nat.le_refl _)) (Nat.ne_of_lt (Nat.lt_succ_self _))
  have I2 := Inv.made (C := C) I
  have r2 : Vals (V.ref (s.heap.objs.size + 1) :: vs) (Value.ref (s.heap.objs.size + 1) :: us) := .cons rfl r
  have hl : (Value.ref (s.heap.objs.size + 1) :: us).length = ps.length := by
    have e := r2.length
    rw [F.ln _ _ _ _ hz] at e
    exact e.symm
  have n2 := hb _ (Value.ref (s.heap.objs.size + 1) :: us) I2.kIn (by rw [List.append_nil]; exact hl)
  rw [List.append_nil] at n2
  refine wpAny_call (make_map (f := f) I.kIn M.makes M.init (beq_iff_eq.mp M.fn) (codeAny_mono (F.go _ X.stack _ _ ⟨Value.ref (s.heap.objs.size + 1) :: us, []⟩ (Value.ref (s.heap.objs.size + 1) :: us) _ _ (E σ) (by exact hq) (hr.make C us [])
    (I2.env0.make C us []) n2 r2 hz) fun r s' hq' => ?_))
  cases r with
  | error e => exact hxm pins _ _ e s' I2 hq'
  | ok fl =>
    cases fl with
    | ret u =>
      obtain ⟨v, H', I3, rv, ev, q3⟩ := I2.after hq'
      subst ev
      exact ⟨rv, ⟨V.ref (s.heap.objs.size + 1), H', I3, rfl, q3⟩⟩
    | next => exact False.elim hq'
    | brk => exact False.elim hq'
    | cont => exact False.elim hq'
def tMakeG (C : Addr) (sp : Sp) (E : L2.St → XK) (t : TA) : TE := fun σ H Q => t σ H fun vs H1 => ∀ x dx, H1 x = none → H1 dx = none → dx ≠ x →
  sp (.ref x :: vs) (upd (upd H1 dx (.own x)) x (.ins C dx [])) (fun v H2 => v = .non ∧ Q (.ref x) H2) (E σ)
theorem pe_makeG (M : Mk X.K C f) (F : FnGd X.prog X.w X.K X.mg X.base CX k f fd ps sp) (hq : X.A.guards = some []) (hr : Room (k + 1) X.A) (hg : Gl X x) (hm : X.mg x = some (.ref C)) (hb : Binds X.K fd ps []) (hx : ∀ σ, PassesAt CX X σ (E σ))
    (ha : PA X (e :: es) t) (hdb : (x == ("__debug__" : Str)) = false := by decide) (he : starEach (e :: es) X.env = (false, eval e X.env) :: starEach es X.env := by rfl) (hpl : (backTo pos (starEach es X.env)).any (·.1) = false := by rfl) :
    PE X (.Call (.Name x p) (e :: es) [] pos) (tMakeG C sp E t) := by
  refine ⟨fun pins s σ H Q I h => ?_⟩
  refine wpAny_Call_Name_kw (ld_glob I hg hm ?_ hdb)
  refine PySem.W.callWith_K (h₀ := X.base) I.ok.mod.kin M.kp (thn (ha.run pos pins s σ H _ I h) fun us s1 ⟨vs, H1, I1, r, q⟩ => ⟨I1.kIn, ?_⟩) he hpl
  exact run_makeG M F hq hr hb (hx σ) (fun pins H s e s' I z => hx σ pins H s e s' I z) I1 r q
/-- C() of a class without an __init__ -/
def tMake0 (C : Addr) : TE := fun σ H Q => ∀ x dx, H x = none → H dx = none → dx ≠ x → Q (.ref x) (upd (upd H dx (.own x)) x (.ins C dx []))
theorem pe_make00 (mk : PySem.W.makesIn X.K C = true) (kp : PySem.W.keepIn X.K (.ref C) = true) (hi : PySem.W.findIn X.K (.ref C) "__init__" = some (some (.builtin "object.__init__"))) (top : PySem.W.mroIn X.K C (.type "object") = some true) (hg : Gl X x) (hm : X.mg x = some (.ref C)) (hdb : (x == ("__debug__" : Str)) = false := by decide) :
    PE X (.Call (.Name x p) [] [] pos) (tMake0 C) := by
  refine ⟨fun pins s σ H Q I h => ?_⟩
  refine wpAny_Call_Name_kw (ld_glob I hg hm ?_ hdb)
  refine PySem.W.callWith_K0 I.kIn kp (wpAny_call (make_map0 I.kIn mk hi (fun self => PySem.W.Looks.of_pure (PySem.W.oi_bind self)) ?_))
  have I2 := Inv.made (C := C) I
  have hz := h (s.heap.objs.size + 1) s.heap.objs.size (I.hok.fresh (Nat.le_succ _)) (I.hok.fresh (Nat.le_refl _)) (Nat.ne_of_lt (Nat.lt_succ_self _))
  have e2 : ((s.heap.push PySem.W.emptyDict).push (PySem.W.instObj C s.heap.objs.size)).get? (s.heap.objs.size + 1) = some (PySem.W.instObj C s.heap.objs.size) := by
    have := Heap.get?_push_size (s.heap.push PySem.W.emptyDict) (o := PySem.W.instObj C s.heap.objs.size) rfl
    rwa [Heap.size_push] at this
  have t1 : PySem.W.Looks (model X.prog X.w) ((s.heap.push PySem.W.emptyDict).push (PySem.W.instObj C s.heap.objs.size)) (typeOf (.ref (s.heap.objs.size + 1))) (.ref C) := (PySem.W.Looks.ld e2).andThen .now
  have t2 : PySem.W.Looks (model X.prog X.w) ((s.heap.push PySem.W.emptyDict).push (PySem.W.instObj C s.heap.objs.size)) (isInstance (.ref (s.heap.objs.size + 1)) (.type "object")) true := t1.andThen (PySem.W.looks_mroIn I2.kIn top)
  refine PySem.codeAny_call_builtin PySem.W.oi_plain PySem.W.entry_oi (@PySem.W.check_slot (model X.prog X.w) _ _ _ "object.__init__" "object" "__init__" (.ref (s.heap.objs.size + 1)) [] [] _ PySem.W.oi_kind PySem.W.oi_split t2 (PySem.W.oi_args (.ref (s.heap.objs.size + 1))) ?_)
  rw [PySem.W.oi_run]
  exact wpAny_pure (And.intro rfl ⟨V.ref (s.heap.objs.size + 1), _, I2, rfl, hz⟩)
end
end VL
namespace VL
open PySem L2
def FnN (P : Program) (w : World) (K : PySem.W.Frag) (mg : Str → Option Value) (base : Heap) (T : Ct) (k : Nat) (c : Nat) (m : List FE → FE) : Prop :=
  ∃ f fd ps mk, Mk K (T.ad c) f ∧ FnGd P w K mg base (L2.CX P w) 1 f fd ps (spN T c mk) ∧ Binds K fd ps [] ∧ ((2 ≤ k ∧ m = fun fs env => (evA fs env).b (newM c mk)) ∨ m = fun _ _ => .stuck)
section
variable {X : Cx} {T : Ct} {EX : XK} {B : Hp × Hp} {e : Expr} {es : List Expr} {pos p : Pos} {fs : List FE}
theorem ve_new {x : Str} {c k : Nat} {m : List FE → FE} (oc : Oc X.K X.mg T x c) (N : FnN X.prog X.w X.K X.mg X.base T k c m) (hr : Room k X.A) (hg : Gl X x) (C : Cv X T EX B) (ha : VA X T EX B (e :: es) fs)
    (hd : (x == ("__debug__" : Str)) = false := by decide) (hs : starEach (e :: es) X.env = (false, eval e X.env) :: starEach es X.env := by rfl) (hpl : ((backTo pos (starEach es X.env)).any fun z => z.1) = false := by rfl) :
    VE X T EX B (.Call (.Name x p) (e :: es) [] pos) (m fs) := by
  obtain ⟨f, fd, ps, mk, M, F, hb, h | h⟩ := N
  rotate_left
  · subst h
    exact ⟨fun pins s σ H Q I ⟨G, env, S, o⟩ => o.elim⟩
  obtain ⟨hk, rfl⟩ := h
  refine pe_weak (pe_makeG (E := fun _ => EX) M F C.gd (hr.mono hk) hg oc.mgC hb (fun σ pn H s e s' => C.pass pn σ H s e s') ha hd hs hpl) fun σ H Q q => ?_
  obtain ⟨G, env, S, o⟩ := q
  refine args_seq S o fun vs as G1 H1 s1 rp S1 o1 x dx hx hdx ne => ?_
  unfold newM at o1
  split at o1
  rotate_left
  · exact o1.elim
  rename_i ds ed
  split at o1
  rotate_left
  · exact o1.elim
  rename_i rs er
  split at o1
  rotate_left
  · exact o1.elim
  rename_i ln
  have dq := dats_ok rp ed
  have hx2 : (upd (upd H1 dx (.own x)) x (.ins (T.ad c) dx [])) x = some (.ins (T.ad c) dx []) := upd_same
  have hdx2 : (upd (upd H1 dx (.own x)) x (.ins (T.ad c) dx [])) dx = some (.own x) := by rw [upd_ne ne, upd_same]
  have old : ∀ b o, H1 b = some o → (upd (upd H1 dx (.own x)) x (.ins (T.ad c) dx [])) b = some o := fun b o e => by
    rw [upd_ne (ne_of_none e hx), upd_ne (ne_of_none e hdx)]; exact e
  refine ⟨x, dx, G1, vs, ds, rs, rfl, hx2, hdx2, fun b o e => old b o (S1.gh b o e), same_none S1.gh hx, dq, er, by rw [dq.length, oc.fl, ln], fun F us H' kp hx' l nd nw ra => ⟨rfl, o1 (.ref x) (x :: dx :: F) G1 H' ⟨.of fun b o e => ?_, Same.refl _, fun b o e => ?_, fun _ a b => absurd a b, fun n => n⟩ ?_ ?_ ?_⟩⟩
  · exact kp b o (ne_of_none e hx) (old b o e)
  · have := S1.gh b o e
    exact kp b o (ne_of_none this hx) (old b o this)
  · refine List.nodup_cons.mpr ⟨fun z => ?_, List.nodup_cons.mpr ⟨fun z => ?_, nd⟩⟩
    · rcases List.mem_cons.mp z with z | z
      · exact ne z.symm
      · have := nw x z; rw [hx2] at this; cases this
    · have := nw dx z; rw [hdx2] at this; cases this
  · intro a m
    have : H1 a = none := by
      rcases List.mem_cons.mp m with rfl | m
      · exact hx
      rcases List.mem_cons.mp m with rfl | m
      · exact hdx
      · cases q : H1 a with
        | none => rfl
        | some o => have z := nw a m; rw [old a o q] at z; cases z
    exact ⟨same_none S1.gh this, this⟩
  · exact .ins hx' (kp dx _ ne hdx2) l ra
@[simp] def vNew0 (c : Nat) : FE := fun _ => .val (.rg (.ins c []))
theorem ve_new0 {x : Str} (c : Nat) (oc : Oc X.K X.mg T x c) (hi : PySem.W.findIn X.K (.ref (T.ad c)) "__init__" = some (some (.builtin "object.__init__"))) (hg : Gl X x) (hf : clsFlds c = [] := by rfl) (hd : (x == ("__debug__" : Str)) = false := by decide) :
    VE X T EX B (.Call (.Name x p) [] [] pos) (vNew0 c) := pe_weak (pe_make00 oc.mks oc.kp hi oc.hm hg oc.mgC hd) fun σ H Q q => by
  obtain ⟨G, env, S, o⟩ := q
  intro x dx hx hdx ne
  refine o (.ref x) [x, dx] G _ ⟨.of fun b o e => ?_, Same.refl _, fun b o e => ?_, fun _ a b => absurd a b, fun n => n⟩ (by simp [ne.symm]) (fun a m => ?_) (.ins (vs := []) (S := []) (by rw [upd_same, oc.fl, hf]; rfl) (by rw [upd_ne ne, upd_same]) (by rw [oc.fl, hf]; rfl) .nil)
  · rw [upd_ne (ne_of_none e hx), upd_ne (ne_of_none e hdx)]; exact e
  · have := S.gh b o e
    rw [upd_ne (ne_of_none this hx), upd_ne (ne_of_none this hdx)]; exact this
  · have : H a = none := by
      rcases List.mem_cons.mp m with rfl | m
      · exact hx
      · rw [List.mem_singleton.mp m]; exact hdx
    exact ⟨same_none S.gh this, this⟩
end
/-! ### .. by __init__ -/
abbrev rList (K : PySem.W.Frag) : List V → Hp → VK → Prop := fun xs H Q => ∃ p ys, xs = [.ref p] ∧ (SqL K H p ys ∨ SqT K H p ys) ∧ ∀ l, H l = none → Q (.ref l) (upd H l (.lst ys))
section
variable {K : PySem.W.Frag} {mg : Str → Option Value} {T : Ct} {vs : List V} {H : Hp} {Q : VK} {E : XK}
theorem spN_len {c : Nat} {mk : List D → Option (List RD)} {n : Nat} (hn : (T.fl c).length + 1 = n) : ∀ xs H Q E, spN T c mk xs H Q E → xs.length = n := by
  rintro xs H Q E ⟨x, dx, G, ys, ds, rs, rfl, _, _, _, _, _, _, l, _⟩
  rw [List.length_cons]; omega
theorem init1_rd (oc : Oc K mg T "Slants" 1) (h : spN T 1 mk1 vs H Q E) : sFld K (tVar 0) (tCB (rList K) (tCons (tVar 1) tNil)) "way" { nx := fun _ H' => Q .non H', rt := Q } (start ["self", "way"] vs) H := by
  obtain ⟨x, dx, G, ys, ds, rs, rfl, hx, hdx, gh, gx, dq, em, l, q⟩ := h
  have fl : T.fl 1 = (["way"] : List Str) := oc.fl
  rw [fl] at l
  match ys, l with
  | [y], _ =>
    obtain ⟨d, ds', rfl⟩ : ∃ d ds', ds = d :: ds' := by
      cases ds with
      | nil => exact absurd dq.length (by simp)
      | cons d r => exact ⟨d, r, rfl⟩
    obtain ⟨v, vs', e, q1, q2⟩ := dq.inv
    cases e
    have e0 : ds' = [] := by
      have := q2.length
      cases ds' with
      | nil => rfl
      | cons _ _ => simp at this
    subst e0
    unfold mk1 at em
    split at em
    rotate_left
    · cases em
    rename_i ds z
    cases z
    cases em
    obtain ⟨b, xs, rfl, s1, q1⟩ := q1.lstH gh
    refine ⟨.ref b, rfl, b, xs, rfl, .inl (sqL_K s1), fun p hp => ⟨.ref x, rfl, x, T.ad 1, dx, [], rfl, ?_, oc.cl, oc.na "way" (by exact List.mem_cons_self), by simp, ?_⟩⟩
    · rw [upd_ne (ne_of_none hx hp)]; exact hx
    · have px : p ≠ x := (ne_of_none hx hp).symm
      refine q [p] [.ref p] _ (fun c o nx e => ?_) ?_ (by rw [fl]; rfl) (by simp) (fun a m => by rw [List.mem_singleton.mp m]; exact hp) ?_
      · rw [upd_ne nx, upd_ne (ne_of_none e hp)]; exact e
      · rw [upd_same, fl]; rfl
      · exact .cons (S := [p]) (S' := []) (.lst (S := []) (vs := xs) (by rw [upd_ne px, upd_same]) (dats_rrp q1)) .nil
theorem asLsts_map : ∀ {ws : List D} {wss : List (List D)}, asLsts ws = some wss → ws = wss.map .list
  | [], _, h => by simp only [asLsts] at h; cases h; rfl
  | d :: r, _, h => by
    simp only [asLsts] at h
    split at h
    · rename_i x y e1 e2
      cases h
      have : d = .list x := by
        cases d <;> simp only [asLst] at e1 <;> cases e1
        rfl
      rw [List.map_cons, ← asLsts_map e2, this]
    · cases h
/-- [list(w) for w in ws]: a list of lists, all new -/
theorem lc_lists {G H1 : Hp} {l D : Addr} {xs : List V} {wss : List (List VL.D)} {σ : L2.St} {i : Nat} {Qd : Hp → Prop} (hi : i < σ.length) (gh : Same G H1) (s1 : SqL [] H1 l xs) (dq : DqAll G xs (wss.map .list)) (hD : H1 D = none) (hw : wss.length ≤ 100000)
    (hd : ∀ Hc acc S, (∀ b o, H1 b = some o → Hc b = some o) → Hc D = some (.lst acc) → RRpAll T G Hc S acc (wss.map lstR) → S.Nodup → D ∉ S → (∀ a ∈ S, H1 a = none) → Qd Hc) :
    ∃ W : Nat → Nat → Hp → Prop, (∃ m, W 0 m (upd H1 D (.lst []))) ∧ ∀ j m H, W j m H →
      ((Itl K l).stop j H ∧ Qd H) ∨ ((Itl K l).go j H ∧ ∃ Nx : Hp → Prop, (∀ H', Nx H' → ∃ m', m' < m ∧ W (j + 1) m' H') ∧ ∀ x H', (Itl K l).yld j H x H' → gName i x (wipe σ [i]) H' fun σ2 H2 => wipe σ2 [i] = wipe σ [i] ∧ tYes σ2 H2 fun b H3 =>
        if b = true then tCB (rList K) (tCons (tVar i) tNil) σ2 H3 fun y H4 => ∃ acc, H4 D = some (.lst acc) ∧ acc.length < sizeLine ∧ Nx (upd H4 D (.lst (acc ++ [y]))) else Nx H3) := by
  have lx : xs.length = wss.length := by rw [dq.length, List.length_map]
  refine lc_list (K := K) (a := l) (xs := xs) (fun j Hc => ∃ acc S, (∀ b o, H1 b = some o → Hc b = some o) ∧ Hc D = some (.lst acc) ∧ RRpAll T G Hc S acc ((wss.take j).map lstR) ∧ S.Nodup ∧ D ∉ S ∧ (∀ a ∈ S, H1 a = none) ∧ acc.length ≤ j) ?_ ?_ ?_ ?_
  · refine ⟨[], [], fun b o e => ?_, upd_same, .nil, List.nodup_nil, List.not_mem_nil, fun a m => absurd m List.not_mem_nil, Nat.zero_le _⟩
    rw [upd_ne (ne_of_none e hD)]; exact e
  · rintro j Hc _ ⟨acc, S, h1, _⟩
    rcases s1 with (s1 | ⟨o, s1⟩) | ⟨o, its, n, hk, _⟩
    · exact .inl (.inl (h1 _ _ s1))
    · exact .inl (.inr ⟨o, h1 _ _ s1⟩)
    · cases hk
  · rintro j x Hc hx ⟨acc, S, h1, h2, h3, h4, h5, h6, h7⟩
    have hj : j < xs.length := (List.getElem?_eq_some_iff.mp hx).1
    have ew : wss[j]? = some wss[j] := List.getElem?_eq_getElem (by omega)
    obtain ⟨v, hv, dv⟩ := dq.get (i := j) (d := .list wss[j]) (by rw [List.getElem?_map, ew]; rfl)
    rw [hx] at hv
    cases hv
    obtain ⟨b, ys, rfl, s2, q2⟩ := dv.lstH gh
    have hi2 : i < (wipe σ [i]).length := by rw [wipe_length]; exact hi
    have s3 : SqL [] Hc b ys := by
      rcases s2 with (s2 | ⟨o, s2⟩) | ⟨o, its, n, hk, _⟩
      · exact .inl (.inl (h1 _ _ s2))
      · exact .inl (.inr ⟨o, h1 _ _ s2⟩)
      · cases hk
    refine ⟨wipe_eq (is := [i]) SetIn.one (fun z m => m), ?_⟩
    unfold tYes
    dsimp only
    rw [if_pos rfl]
    refine ⟨.ref b, List.getElem?_set_self hi2, b, ys, rfl, .inl (sqL_K s3), fun p hp => ⟨acc, ?_, ?_, acc ++ [.ref p], S ++ [p], fun c o e => ?_, upd_same, ?_, ?_, ?_, ?_, ?_⟩⟩
    · rw [upd_ne (ne_of_none h2 hp)]; exact h2
    · exact gl_line (by omega)
    · have := h1 c o e
      rw [upd_ne (ne_of_none e hD), upd_ne (ne_of_none this hp)]; exact this
    · have pD : p ≠ D := (ne_of_none h2 hp).symm
      have k : ∀ a ∈ S, (upd (upd Hc p (.lst ys)) D (.lst (acc ++ [.ref p]))) a = Hc a := fun a m => by
        obtain ⟨o, ea, _⟩ := RRpAll.at _ _ _ h3 a m
        rw [upd_ne (show a ≠ D from fun z => h5 (z ▸ m)), upd_ne (ne_of_none ea hp)]
      have h3' := RRpAll.mono (T' := T) (Same.refl G) rfl rfl _ _ _ h3 k
      have hp' : (upd (upd Hc p (.lst ys)) D (.lst (acc ++ [.ref p]))) p = some (.lst ys) := by rw [upd_ne pD, upd_same]
      have e1 : (wss.take (j + 1)).map lstR = (wss.take j).map lstR ++ [lstR wss[j]] := by
        rw [List.take_succ, ew, List.map_append]; rfl
      rw [e1]
      exact RRpAll.snoc (S' := [p]) (.lst (S := []) hp' (dats_rrp q2)) h3'
    · refine List.nodup_append.mpr ⟨h4, by simp, fun a m c mc => ?_⟩
      rw [List.mem_singleton.mp mc]
      obtain ⟨o, ea, _⟩ := RRpAll.at _ _ _ h3 a m
      exact ne_of_none ea hp
    · intro m
      rcases List.mem_append.mp m with m | m
      · exact h5 m
      · rw [List.mem_singleton.mp m] at h2; rw [hp] at h2; cases h2
    · intro a m
      rcases List.mem_append.mp m with m | m
      · exact h6 a m
      · rw [List.mem_singleton.mp m]
        cases q : H1 p with
        | none => rfl
        | some o => have := h1 p o q; rw [hp] at this; cases this
    · rw [List.length_append, List.length_singleton]; omega
  · rintro Hc ⟨acc, S, h1, h2, h3, h4, h5, h6, h7⟩
    rw [List.take_of_length_le (by omega)] at h3
    exact hd Hc acc S h1 h2 h3 h4 h5 h6
theorem init2_rd (oc : Oc K mg T "Leaned" 2) (h : spN T 2 mk2 vs H Q E) : tSeq (sFld K (tVar 0) (tVar 1) "heap") (sFld K (tVar 0) (tLc (iList K (tVar 2)) (gName 3) tYes (tCB (rList K) (tCons (tVar 3) tNil)) [3]) "ways") { nx := fun _ H' => Q .non H', rt := Q } (start ["self", "heap", "ways", "way"] vs) H := by
  obtain ⟨x, dx, G, ys, ds, rs, rfl, hx, hdx, gh, gx, dq, em, l, q⟩ := h
  have fl : T.fl 2 = (["heap", "ways"] : List Str) := oc.fl
  rw [fl] at l
  match ys, l with
  | [y, z], _ =>
    obtain ⟨d, d2, rfl⟩ : ∃ d d2, ds = [d, d2] := by
      have := dq.length
      match ds, this with
      | [d, d2], _ => exact ⟨d, d2, rfl⟩
    obtain ⟨v, vs', e, q1, q2⟩ := dq.inv
    cases e
    obtain ⟨v2, vs2, e, q3, q4⟩ := q2.inv
    cases e
    unfold mk2 at em
    split at em
    rotate_left
    · cases em
    rename_i h0 ws0 z0
    cases z0
    split at em
    rotate_left
    · cases em
    rename_i hwl
    obtain ⟨wss, ew, rfl⟩ := Option.map_eq_some_iff.mp em
    have ews := asLsts_map ew
    subst ews
    obtain ⟨b, xs, rfl, s1, q5⟩ := q3.lstInv
    have gh1 : Same G (upd H x (.ins (T.ad 2) dx [("heap", y)])) := fun c o e => by
      rw [upd_ne (ne_of_none e gx)]; exact gh c o e
    refine ⟨y, rfl, .ref x, rfl, x, T.ad 2, dx, [], rfl, hx, oc.cl, oc.na "heap" (by exact List.mem_cons_self), by simp, ?_⟩
    refine ⟨.ref b, rfl, b, rfl, ⟨xs, sqL_K (gh1.seq s1)⟩, fun D hD => ?_⟩
    have Dx : D ≠ x := fun z => by rw [z, upd_same] at hD; cases hD
    refine lc_lists (T := T) (K := K) (G := G) (xs := xs) (wss := wss) (i := 3) (by simp [L2.start]) gh1 (gh1.seq s1) q5 hD (by rw [List.length_map] at hwl; exact hwl) fun Hc acc S h1 h2 h3 h4 h5 h6 => ?_
    have hxc : Hc x = some (.ins (T.ad 2) dx [("heap", y)]) := h1 x _ upd_same
    have hS : ∀ a ∈ S, a ≠ x := fun a m z => by
      have := h6 a m
      rw [z, upd_same] at this; cases this
    refine ⟨.ref x, rfl, x, T.ad 2, dx, _, rfl, hxc, oc.cl, oc.na "ways" (by exact List.mem_cons_of_mem _ List.mem_cons_self), by simp, ?_⟩
    refine q (D :: S) [y, .ref D] _ (fun c o nx e => ?_) ?_ (by rw [fl]; rfl) (List.nodup_cons.mpr ⟨h5, h4⟩) (fun a m => ?_) ?_
    · rw [upd_ne nx]
      exact h1 c o (by rw [upd_ne nx]; exact e)
    · rw [upd_same, fl]
      rfl
    · rcases List.mem_cons.mp m with rfl | m
      · rw [upd_ne Dx] at hD; exact hD
      · have := h6 a m
        rw [upd_ne (hS a m)] at this; exact this
    · have h3' := RRpAll.mono (T' := T) (H' := upd Hc x (.ins (T.ad 2) dx (putF "ways" (.ref D) [("heap", y)]))) (Same.refl G) rfl rfl _ _ _ h3 fun a m => upd_ne (hS a m)
      have z := RRpAll.cons (T := T) (G := G) (RRp.lst (S := S) (vs := acc) ((upd_ne Dx).trans h2) h3') .nil
      rw [List.append_nil] at z
      exact RRpAll.cons (S := []) (S' := D :: S) (.dat q1) z
end
end VL
namespace VL
open PySem L2
/-! ### a class's defs -/
def Dm (K : PySem.W.Frag) (T : Ct) (c : Nat) (x q : Str) (st : Stmt) (ps : List Str) : Prop := ∃ f fd, Fun K x q st f fd ∧ Meth K (T.ad c) x f ∧ Binds K fd ps []
def Di (K : PySem.W.Frag) (T : Ct) (c : Nat) (q : Str) (st : Stmt) (ps : List Str) : Prop := ∃ f fd, Fun K "__init__" q st f fd ∧ Mk K (T.ad c) f ∧ Binds K fd ps []
def FnC (P : Program) (w : World) (K : PySem.W.Frag) (mg : Str → Option Value) (base : Heap) (T : Ct) (k c : Nat) (x : Str) (n : Nat) (m : List SV → R) : Prop :=
  ∃ f fd ps, FnGd P w K mg base (L2.CX P w) k f fd ps (spV T n m) ∧ Meth K (T.ad c) x f ∧ Binds K fd ps []
def FnI (P : Program) (w : World) (K : PySem.W.Frag) (mg : Str → Option Value) (base : Heap) (T : Ct) (c : Nat) (mk : List D → Option (List RD)) : Prop :=
  ∃ f fd ps, Mk K (T.ad c) f ∧ FnGd P w K mg base (L2.CX P w) 1 f fd ps (spN T c mk) ∧ Binds K fd ps []
def nwM (c : Nat) (mk : List D → Option (List RD)) : Nat → List FE → FE
  | 0 => fun _ _ => .stuck
  | 1 => fun _ _ => .stuck
  | _ + 2 => fun fs env => (evA fs env).b (newM c mk)
theorem nwM_eq {c : Nat} {mk : List D → Option (List RD)} {k : Nat} (h : 2 ≤ k) : nwM c mk k = fun fs env => (evA fs env).b (newM c mk) := by
  obtain ⟨j, rfl⟩ : ∃ j, k = j + 2 := ⟨k - 2, by omega⟩
  rfl
section
variable {P : Program} {w : World} {K : PySem.W.Frag} {mg : Str → Option Value} {base : Heap} {T : Ct}
theorem fnC_mk {x q : Str} {st : Stmt} {N ps : List Str} {k c : Nat} {s : FS} (d : Dm K T c x q st ps) (S : FnScope N ps (defScope st)) (hb : Bd P w K mg base T k N q st s) : FnC P w K mg base T (k + 1) c x ps.length (runB N.length s) := by
  obtain ⟨f, fd, F, hm, hbi⟩ := d
  exact ⟨f, fd, ps, fn_ok F S fun cdv A outer s0 H E B hr C po tk => hb f cdv A outer s0 H E B hr C po tk, hm, hbi⟩
theorem fnC_zero {x q : Str} {st : Stmt} {ps : List Str} {n c : Nat} {m : List SV → R} (d : Dm K T c x q st ps) (h : m = fun _ => .stuck) : FnC P w K mg base T 0 c x n m := by
  obtain ⟨f, fd, F, hm, hbi⟩ := d
  subst h
  have no : ∀ vs H Q E, ¬ spV T n (fun _ => .stuck) vs H Q E := fun vs H Q E ⟨_, _, _, _, _, _, _, o⟩ => o
  exact ⟨f, fd, ps, ⟨fun vs H Q E h => absurd h (no vs H Q E), fun A outer s H args us vs Q E _ _ _ _ _ h => absurd h (no vs H Q E)⟩, hm, hbi⟩
def msO (a b c : List SV → R) : Nat → List SV → R
  | 0 => a
  | 1 => b
  | _ => c
theorem fnSh_of {k n : Nat} {x : Str} {a b c : List SV → R} (h0 : FnC P w K mg base T k 0 x n a) (h1 : FnC P w K mg base T k 1 x n b) (h2 : FnC P w K mg base T k 2 x n c) : FnSh P w K mg base T k x n (msO a b c) := fun i hi => by
  have : i = 0 ∨ i = 1 ∨ i = 2 := by omega
  rcases this with rfl | rfl | rfl
  · exact h0
  · exact h1
  · exact h2
theorem fnN_of {c : Nat} {mk : List D → Option (List RD)} (h : FnI P w K mg base T c mk) (k : Nat) : FnN P w K mg base T k c (nwM c mk k) := by
  obtain ⟨f, fd, ps, a, b, d⟩ := h
  refine ⟨f, fd, ps, mk, a, b, d, ?_⟩
  by_cases z : 2 ≤ k
  · exact .inl ⟨z, nwM_eq z⟩
  · refine .inr ?_
    have : k = 0 ∨ k = 1 := by omega
    rcases this with rfl | rfl <;> rfl
/-! ### the same with a table at hand -/
theorem Oc.tab {x : Str} {c : Nat} (o : Oc K mg T x c) (a : Addr) : Oc K mg { T with me := some a } x c := ⟨o.mgC, o.fl, o.cl, o.na, o.ha, o.hn, o.ht, o.hm, o.mks, o.kp⟩
theorem Dm.tab {c : Nat} {x q : Str} {st : Stmt} {ps : List Str} (d : Dm K T c x q st ps) (a : Addr) : Dm K { T with me := some a } c x q st ps := d
theorem Di.tab {c : Nat} {q : Str} {st : Stmt} {ps : List Str} (d : Di K T c q st ps) (a : Addr) : Di K { T with me := some a } c q st ps := d
theorem OkI.tab {x : Str} {t : Nat → Bool} (o : OkI K mg T x t) (a : Addr) : OkI K mg { T with me := some a } x t := o
/-! ### from the top -/
theorem ad_of {c : Nat} {x : Str} {C : Addr} {h : Heap} (X : K.In h) (G : h.Ns mainGlobals mg) (a : PySem.W.nsIn K mainGlobals x = some (some (.ref C))) (hx : clsName c = x) : (ctOf mg).ad c = C := by
  show adOf mg (clsName c) = C
  rw [hx]; exact adOf_eq (PySem.W.mg_of X G a)
theorem oc_mk {c : Nat} {x : Str} {C : Addr} {h : Heap} (X : K.In h) (G : h.Ns mainGlobals mg) (a : PySem.W.nsIn K mainGlobals x = some (some (.ref C))) (hx : clsName c = x) (cl : Cls K C) (na : ∀ f ∈ clsFlds c, NoAttr K C f)
    (ha : PySem.W.findIn K (.ref C) "__class__" = some (some (.builtin "object.__class__"))) (hn : PySem.W.specialIn K (.builtin "object.__class__") "__get__" = some (some (.builtin "getset_descriptor.__get__"))) (ht : PySem.W.takesIn K (.builtin "object.__class__") = some true)
    (hm : PySem.W.mroIn K C (.type "object") = some true) (mks : PySem.W.makesIn K C = true) (kp : PySem.W.keepIn K (.ref C) = true) : Oc K mg (ctOf mg) x c := by
  have e := ad_of X G a hx
  exact ⟨by rw [e]; exact PySem.W.mg_of X G a, rfl, by rw [e]; exact cl, by rw [e]; exact na, by rw [e]; exact ha, hn, ht, by rw [e]; exact hm, by rw [e]; exact mks, by rw [e]; exact kp⟩
theorem dm_mk {c : Nat} {x m q : Str} {C f : Addr} {h : Heap} {st : Stmt} {ps : List Str} {oc : Value} {od an : Option Addr} {osl : Array (Option Value)} {kV doc pm cdv ct : Value} (X : K.In h) (G : h.Ns mainGlobals mg) (a : PySem.W.nsIn K mainGlobals x = some (some (.ref C))) (hx : clsName c = x)
    (g : PySem.W.findIn K (.ref C) m = some (some (.ref f))) (n : PySem.W.isFn K (.ref f) = true) (l : K.lookup f = some ⟨oc, od, .func (PySem.W.fnOf m q (defArgs st) (defBody st) (defScope st) .none kV doc pm an cdv ct), osl⟩) (cd : PySem.W.codeIn K cdv q = true) (k : PySem.W.keepIn K (.ref f) = true)
    (hb : ∀ (kV doc pm : Value) (an : Option Addr) (cdv ct : Value) (us : List Value), us.length = ps.length → bindArgs (PySem.W.fnOf m q (defArgs st) (defBody st) (defScope st) .none kV doc pm an cdv ct) ⟨us, []⟩ = pure (ps.zip us)) : Dm K (ctOf mg) c m q st ps := by
  have F := fun_mk (st := st) l cd k
  exact ⟨f, _, F, ⟨by rw [ad_of X G a hx]; exact g, n, k⟩, F.binds hb⟩
theorem di_mk {c : Nat} {x q : Str} {C f : Addr} {h : Heap} {st : Stmt} {ps : List Str} {oc : Value} {od an : Option Addr} {osl : Array (Option Value)} {kV doc pm cdv ct : Value} (X : K.In h) (G : h.Ns mainGlobals mg) (a : PySem.W.nsIn K mainGlobals x = some (some (.ref C))) (hx : clsName c = x)
    (g : PySem.W.findIn K (.ref C) "__init__" = some (some (.ref f))) (n : PySem.W.isFn K (.ref f) = true) (l : K.lookup f = some ⟨oc, od, .func (PySem.W.fnOf "__init__" q (defArgs st) (defBody st) (defScope st) .none kV doc pm an cdv ct), osl⟩) (cd : PySem.W.codeIn K cdv q = true) (k : PySem.W.keepIn K (.ref f) = true)
    (mks : PySem.W.makesIn K C = true) (kp : PySem.W.keepIn K (.ref C) = true)
    (hb : ∀ (kV doc pm : Value) (an : Option Addr) (cdv ct : Value) (us : List Value), us.length = ps.length → bindArgs (PySem.W.fnOf "__init__" q (defArgs st) (defBody st) (defScope st) .none kV doc pm an cdv ct) ⟨us, []⟩ = pure (ps.zip us)) : Di K (ctOf mg) c q st ps := by
  have F := fun_mk (st := st) l cd k
  have e := ad_of X G a hx
  exact ⟨f, _, F, ⟨by rw [e]; exact mks, by rw [e]; exact g, n, by rw [e]; exact kp⟩, F.binds hb⟩
theorem z_mk {c : Nat} {x : Str} {C : Addr} {h : Heap} (X : K.In h) (G : h.Ns mainGlobals mg) (a : PySem.W.nsIn K mainGlobals x = some (some (.ref C))) (hx : clsName c = x) (g : PySem.W.findIn K (.ref C) "__init__" = some (some (.builtin "object.__init__"))) :
    PySem.W.findIn K (.ref ((ctOf mg).ad c)) "__init__" = some (some (.builtin "object.__init__")) := by rw [ad_of X G a hx]; exact g
theorem ok_mk {x : Str} {D C0 C1 C2 : Addr} {h : Heap} {t : Nat → Bool} {b0 b1 b2 : Bool} (X : K.In h) (G : h.Ns mainGlobals mg) (a : PySem.W.nsIn K mainGlobals x = some (some (.ref D))) (a0 : PySem.W.nsIn K mainGlobals "Leans" = some (some (.ref C0))) (a1 : PySem.W.nsIn K mainGlobals "Slants" = some (some (.ref C1))) (a2 : PySem.W.nsIn K mainGlobals "Leaned" = some (some (.ref C2)))
    (e0 : PySem.W.kitOne K (.ref C0) (.ref D) = some b0) (e1 : PySem.W.kitOne K (.ref C1) (.ref D) = some b1) (e2 : PySem.W.kitOne K (.ref C2) (.ref D) = some b2) (h0 : t 0 = b0) (h1 : t 1 = b1) (h2 : t 2 = b2) : OkI K mg (ctOf mg) x t := by
  refine ⟨D, PySem.W.mg_of X G a, fun c hc => ?_⟩
  have : c = 0 ∨ c = 1 ∨ c = 2 := by omega
  rcases this with rfl | rfl | rfl
  · rw [ad_of X G a0 rfl, h0]; exact e0
  · rw [ad_of X G a1 rfl, h1]; exact e1
  · rw [ad_of X G a2 rfl, h2]; exact e2
theorem na0 {K : PySem.W.Frag} {C : Addr} : ∀ f ∈ clsFlds 0, NoAttr K C f := fun _ m => absurd m List.not_mem_nil
theorem na1 {K : PySem.W.Frag} {C : Addr} (h : PySem.W.findIn K (.ref C) "way" = some none) : ∀ f ∈ clsFlds 1, NoAttr K C f := fun f m => by
  rw [show f = ("way" : Str) from List.mem_singleton.mp m]; exact h
theorem na2 {K : PySem.W.Frag} {C : Addr} (h : PySem.W.findIn K (.ref C) "heap" = some none) (h' : PySem.W.findIn K (.ref C) "ways" = some none) : ∀ f ∈ clsFlds 2, NoAttr K C f := fun f m => by
  rcases List.mem_cons.mp m with rfl | m
  · exact h
  · rw [show f = ("ways" : Str) from List.mem_singleton.mp m]; exact h'
end
end VL
namespace VL
open PySem L2
/-! ### a name takes a thing of its own; parts of it are changed -/
@[simp] def isRg : Option SV → Bool
  | some (.rg _) => true
  | _ => false
def noRg (env : VEnv) : Bool := env.all fun o => !isRg o
theorem noRg_at {env : VEnv} (h : noRg env = true) {j : Nat} {r : RD} (e : env[j]? = some (some (.rg r))) : False := by
  have := List.all_eq_true.mp h _ (List.mem_of_getElem? e)
  simp at this
@[simp] def sRg (i : Nat) (f : FE) : FS := fun env => (f env).s fun v => if noRg (env.set i none) = true then (match v with
  | .rg r => .nx (env.set i (some (.rg r)))
  | _ => .stuck) else .stuck
/-- the list that is the j-th part -/
@[simp] def subL (rs : List RD) (j : Nat) : Option (List RD) := match rs[j]? with
  | some (.lst qs) => some qs
  | _ => none
/-- x.f.append(e), x.f.pop() -/
@[simp] def sRgApp (i c j : Nat) (f : FE) : FS := fun env => match env[i]? with
  | some (some (.rg (.ins c' rs))) => if c' = c then (match subL rs j with
    | some qs => (match evA [f] env with
      | .val [.sh d] => if qs.length ≤ 1000000 then .nx (env.set i (some (.rg (.ins c (rs.set j (.lst (qs ++ [.dat d]))))))) else .stuck
      | .err c => .err c
      | _ => .stuck)
    | none => .stuck) else .stuck
  | _ => .stuck
@[simp] def sRgPop (i c j : Nat) : FS := fun env => match env[i]? with
  | some (some (.rg (.ins c' rs))) => if c' = c then (match subL rs j with
    | some qs => if qs.length = 0 then .stuck else .nx (env.set i (some (.rg (.ins c (rs.set j (.lst qs.dropLast))))))
    | none => .stuck) else .stuck
  | _ => .stuck
section
variable {X : Cx} {T : Ct} {EX : XK} {B : Hp × Hp} {e a b c o tg : Expr} {es : List Expr} {pos p p2 apos : Pos} {f g h : FE} {fs gs : List FE} {G H G1 H1 : Hp} {Q : VK} {σ : L2.St} {env : VEnv} {D : Ends}
theorem Sim.setRg (S : Sim T B G env σ H) {i : Nat} {v : V} {F : List Addr} {r : RD} (n : noRg (env.set i none) = true) (h : RgAt T B G H F v r) (ap : ∀ (j : Nat) ds p, env[j]? = some (some (.ow ds)) → σ[j]? = some (some (.ref p)) → p ∉ F) : Sim T B G (env.set i (some (.rg r))) (σ.set i (some v)) H where
  st := S.st
  nb := S.nb
  me := S.me
  len := by rw [List.length_set, List.length_set, S.len]
  sh := fun j e q => by
    rcases get_set q with ⟨z, y⟩ | ⟨z, y⟩
    · cases y
    · obtain ⟨w, h1, h2⟩ := S.sh j e y
      exact ⟨w, by rw [List.getElem?_set_ne z]; exact h1, h2⟩
  ob := fun j c' fs' q => by
    rcases get_set q with ⟨z, y⟩ | ⟨z, y⟩
    · cases y
    · obtain ⟨w, h1, h2⟩ := S.ob j c' fs' y
      exact ⟨w, by rw [List.getElem?_set_ne z]; exact h1, h2⟩
  ow := fun j ds q => by
    rcases get_set q with ⟨z, y⟩ | ⟨z, y⟩
    · cases y
    · obtain ⟨p, xs, h1, h2⟩ := S.ow j ds y
      exact ⟨p, xs, by rw [List.getElem?_set_ne z]; exact h1, h2⟩
  ap := fun j k ds es p q1 q2 q3 q4 => by
    rcases get_set q1 with ⟨z, y⟩ | ⟨z1, y1⟩
    · cases y
    rcases get_set q2 with ⟨z, y⟩ | ⟨z2, y2⟩
    · cases y
    rw [List.getElem?_set_ne z1] at q3
    rw [List.getElem?_set_ne z2] at q4
    exact S.ap j k ds es p y1 y2 q3 q4
  rg := fun j r' q => by
    have hj : j < σ.length := by have := (List.getElem?_eq_some_iff.mp q).1; rw [List.length_set] at this; rw [← S.len]; exact this
    have no : ∀ (l : Nat) r2, env[l]? = some (some (.rg r2)) → i ≠ l → False := fun l r2 e z => noRg_at (j := l) (r := r2) n (by rw [List.getElem?_set_ne z]; exact e)
    rcases get_set q with ⟨z, y⟩ | ⟨z, y⟩
    · subst z
      cases y
      refine ⟨fun l r2 q2 => ?_, v, F, List.getElem?_set_self hj, h, fun l ds p q1 q2 => ?_⟩
      · rcases get_set q2 with ⟨z, _⟩ | ⟨z, y⟩
        · exact z.symm
        · exact (no l r2 y z).elim
      · rcases get_set q1 with ⟨z, y⟩ | ⟨z, y⟩
        · cases y
        · rw [List.getElem?_set_ne z] at q2
          exact ap l ds p y q2
    · exact (no j r' y z).elim
theorem vs_rg (i : Nat) {x : Str} {pos' : Pos} (C : Cv X T EX B) (he : VE X T EX B e f) (hi : X.N[i]? = some x := by rfl) (hx : Loc X.env.scope x := by first | exact .inl rfl | exact .inr rfl) (hs : swapsWith e (some (.Name x pos')) pos.line X.env = pure false := by rfl) (hf : X.fn x = true ∨ X.env.scope.names.lookup x = some .local := by first | exact .inl rfl | exact .inr rfl) :
    VS X T EX B (.Assign [.Name x pos'] e pos) (sRg i f) := ps_weak (ps_set C.nd hi hx he hs hf) fun D σ H q => by
  obtain ⟨G, env, S, o⟩ := q
  refine seqS S o fun v _ o => ?_
  split at o
  rotate_left
  · exact o.elim
  rename_i n
  split at o
  rotate_left
  · exact o.elim
  intro v F G' H' s nd nw q
  refine o G' _ H' s.gg ((S.step s).setRg n ⟨q, nd, fun a m => ⟨(nw a m).1, SameH.free S.st.hh (nw a m).2⟩⟩ fun j ds p e1 e2 m => ?_)
  obtain ⟨p', xs, h1, h2, _⟩ := S.ow j ds e1
  rw [e2] at h1; cases h1
  have := (nw p m).2
  rw [h2] at this; cases this
/-- the thing that a name owns is changed within its places -/
theorem Sim.wrR (S : Sim T B G env σ H) {i : Nat} {r r' : RD} {v : V} {F F' : List Addr} {H' : Hp} (hi : env[i]? = some (some (.rg r))) (hv : σ[i]? = some (some v)) (ra : RgAt T B G H F v r) (ap : ∀ (j : Nat) ds p, env[j]? = some (some (.ow ds)) → σ[j]? = some (some (.ref p)) → p ∉ F)
    (k : ∀ a, a ∉ F → H' a = H a) (k2 : ∀ a ∈ F, ∃ o, H' a = some o) (rp : RRp T G H' F' v r') (sb : F'.Sublist F) : Sim T B G (env.set i (some (.rg r'))) σ H' := by
  have hl : i < σ.length := S.lt hi
  have hs : σ = σ.set i (some v) := by
    refine List.ext_getElem? fun j => ?_
    by_cases z : i = j
    · subst z; rw [List.getElem?_set_self hl]; exact hv
    · rw [List.getElem?_set_ne z]
  obtain ⟨u, _⟩ := S.rg i r hi
  have gF : ∀ a o, G a = some o → a ∉ F := fun a o e m => by rw [(ra.nw a m).1] at e; cases e
  have bF : ∀ a o, B.2 a = some o → a ∉ F := fun a o e m => by rw [(ra.nw a m).2] at e; cases e
  have S1 : Sim T B G (env.set i none) σ H' := by
    refine ⟨⟨fun b o q => ?_, S.st.gg, fun b o q => ?_, S.st.nw, S.st.nm⟩, S.nb, fun c z => ?_, by rw [List.length_set, S.len], fun j d q => ?_, fun j c fs q => ?_, fun j es q => ?_, fun j k es fs a q1 q2 q3 q4 => ?_, fun j r2 q => ?_⟩
    · rw [k b (bF b o q)]; exact S.st.hh b o q
    · rw [k b (gF b o q)]; exact S.st.gh b o q
    · obtain ⟨o, e, m⟩ := S.me c z
      refine ⟨o, ?_, m⟩
      rw [k c fun mf => ?_]; exact e
      obtain ⟨o', e', n⟩ := RRp.at r F v ra.rp c mf
      rw [e] at e'; cases e'; exact n m
    · rcases get_set q with ⟨z, y⟩ | ⟨z, y⟩
      · cases y
      · exact S.sh j d y
    · rcases get_set q with ⟨z, y⟩ | ⟨z, y⟩
      · cases y
      · exact S.ob j c fs y
    · rcases get_set q with ⟨z, y⟩ | ⟨z, y⟩
      · cases y
      · obtain ⟨a, ys, h1, h2, h3⟩ := S.ow j es y
        exact ⟨a, ys, h1, by rw [k a (ap j es a y h1)]; exact h2, h3⟩
    · rcases get_set q1 with ⟨z, y⟩ | ⟨z1, y1⟩
      · cases y
      rcases get_set q2 with ⟨z, y⟩ | ⟨z2, y2⟩
      · cases y
      exact S.ap j k es fs a y1 y2 q3 q4
    · rcases get_set q with ⟨z, y⟩ | ⟨z, y⟩
      · cases y
      · exact absurd (u j r2 y).symm z
  have n : noRg ((env.set i none).set i none) = true := by
    rw [List.set_set]
    refine List.all_eq_true.mpr fun o m => ?_
    obtain ⟨j, hj⟩ := List.getElem?_of_mem m
    cases o with
    | none => rfl
    | some w =>
      cases w with
      | rg r2 =>
        rcases get_set hj with ⟨z, y⟩ | ⟨z, y⟩
        · cases y
        · exact absurd (u j r2 y).symm z
      | _ => rfl
  have q := S1.setRg (i := i) n (r := r') (v := v) ⟨rp, ra.nd.sublist sb, fun a m => ra.nw a (sb.subset m)⟩ (fun j ds p e1 e2 m => by
    rcases get_set e1 with ⟨z, y⟩ | ⟨z, y⟩
    · cases y
    · exact ap j ds p y e2 (sb.subset m))
  rw [← hs, List.set_set] at q
  exact q
/-- the j-th part is a list: its place; another one put there -/
theorem RRpAll.sub {T : Ct} {G H : Hp} : ∀ {rs : List RD} {S : List Addr} {vs : List V} (j : Nat) {qs : List RD}, RRpAll T G H S vs rs → rs[j]? = some (.lst qs) → S.Nodup →
    ∃ p xs Sq, vs[j]? = some (.ref p) ∧ H p = some (.lst xs) ∧ RRpAll T G H Sq xs qs ∧ p ∈ S ∧ p ∉ Sq ∧ Sq.Sublist S ∧
      ∀ H' xs' qs' Sq', (∀ a ∈ S, a ≠ p → a ∉ Sq → H' a = H a) → H' p = some (.lst xs') → RRpAll T G H' Sq' xs' qs' → Sq'.Sublist Sq → ∃ S', S'.Sublist S ∧ RRpAll T G H' S' vs (rs.set j (.lst qs'))
  | [], _, _, _, _, _, h, _ => by simp at h
  | r :: rs, _, _, 0, qs, .cons (S := S1) (S' := S2) h a, e, nd => by
    simp only [List.getElem?_cons_zero, Option.some.injEq] at e
    subst e
    cases h with
    | lst h q =>
      rename_i p xs Sq
      have nd' := List.nodup_append.mp nd
      have pq := (List.nodup_cons.mp nd'.1).1
      refine ⟨p, xs, Sq, rfl, h, q, List.mem_append_left _ List.mem_cons_self, pq, (List.sublist_cons_self p Sq).trans (List.sublist_append_left _ _), fun H' xs' qs' Sq' k hp ra sb => ⟨(p :: Sq') ++ S2, (sb.cons_cons p).append (List.Sublist.refl _), .cons (.lst hp ra) (RRpAll.mono (T' := T) (Same.refl G) rfl rfl rs _ _ a fun b m => k b (List.mem_append_right _ m) (fun z => ?_) fun z => ?_)⟩⟩
      · exact nd'.2.2 p List.mem_cons_self b m z.symm
      · exact nd'.2.2 b (List.mem_cons_of_mem _ z) b m rfl
  | r :: rs, _, _, j + 1, qs, .cons (S := S1) (S' := S2) h a, e, nd => by
    have e : rs[j]? = some (.lst qs) := by simpa using e
    have nd' := List.nodup_append.mp nd
    obtain ⟨p, xs, Sq, h1, h2, h3, h4, h5, h6, h7⟩ := RRpAll.sub j a e nd'.2.1
    refine ⟨p, xs, Sq, by simpa using h1, h2, h3, List.mem_append_right _ h4, h5, h6.trans (List.sublist_append_right _ _), fun H' xs' qs' Sq' k hp ra sb => ?_⟩
    obtain ⟨S', s1, s2⟩ := h7 H' xs' qs' Sq' (fun b m => k b (List.mem_append_right _ m)) hp ra sb
    refine ⟨S1 ++ S', (List.Sublist.refl _).append s1, .cons (RRp.mono (T' := T) (Same.refl G) rfl rfl r _ _ h fun b m => k b (List.mem_append_left _ m) (fun z => ?_) fun z => ?_) s2⟩
    · exact nd'.2.2 b m p h4 z
    · exact nd'.2.2 b m b (h6.subset z) rfl
theorem RRpAll.len {T : Ct} {G H : Hp} : ∀ {rs : List RD} {S : List Addr} {vs : List V}, RRpAll T G H S vs rs → vs.length = rs.length
  | _, _, _, .nil => rfl
  | _, _, _, .cons _ a => by rw [List.length_cons, List.length_cons, RRpAll.len a]
theorem RRpAll.dropLast {T : Ct} {G H : Hp} : ∀ {rs : List RD} {S : List Addr} {vs : List V}, RRpAll T G H S vs rs → ∃ S', S'.Sublist S ∧ RRpAll T G H S' vs.dropLast rs.dropLast
  | _, _, _, .nil => ⟨[], List.Sublist.refl _, .nil⟩
  | _, _, _, .cons (S := S1) h a => by
    rename_i S2 v vs r rs
    cases a with
    | nil => exact ⟨[], List.nil_sublist _, .nil⟩
    | cons h' a' =>
      obtain ⟨S', s1, s2⟩ := RRpAll.dropLast (.cons h' a')
      exact ⟨S1 ++ S', (List.Sublist.refl _).append s1, .cons h s2⟩
end
end VL
namespace VL
open PySem L2
theorem subL_eq {rs : List RD} {j : Nat} {qs : List RD} (h : subL rs j = some qs) : rs[j]? = some (.lst qs) := by
  unfold subL at h
  split at h
  · rename_i q e; cases h; exact e
  · cases h
section
variable {X : Cx} {T : Ct} {EX : XK} {B : Hp × Hp} {e a b c o tg : Expr} {es : List Expr} {pos p p2 apos cpos px : Pos} {f g h : FE} {fs gs : List FE} {G H G1 H1 : Hp} {Q : VK} {σ : L2.St} {env : VEnv} {D : Ends}
/-- an object of one's own, opened: its fields, the list at j -/
theorem rg_open (S : Sim T B G env σ H) {i c j : Nat} {rs qs : List RD} (ei : env[i]? = some (some (.rg (.ins c rs)))) (er : rs[j]? = some (.lst qs)) :
    ∃ a dx vs S0 p xs Sq, σ[i]? = some (some (.ref a)) ∧ H a = some (.ins (T.ad c) dx ((T.fl c).zip vs)) ∧ vs.length = (T.fl c).length ∧ vs[j]? = some (.ref p) ∧ H p = some (.lst xs) ∧ RRpAll T G H Sq xs qs ∧ p ∈ S0 ∧ p ∉ Sq ∧ Sq.Sublist S0 ∧ a ∉ S0 ∧ RgAt T B G H (a :: dx :: S0) (.ref a) (.ins c rs) ∧
      (∀ (l : Nat) ds q, env[l]? = some (some (.ow ds)) → σ[l]? = some (some (.ref q)) → q ∉ a :: dx :: S0) ∧
      ∀ H' xs' qs' Sq', (∀ b, b ∉ p :: Sq → H' b = H b) → (∀ b ∈ Sq, ∃ o, H' b = some o) → H' p = some (.lst xs') → RRpAll T G H' Sq' xs' qs' → Sq'.Sublist Sq → Sim T B G (env.set i (some (.rg (.ins c (rs.set j (.lst qs')))))) σ H' := by
  obtain ⟨u, v, F, hv, ra, ap⟩ := S.rg i _ ei
  have rp := ra.rp
  cases rp with
  | ins h h2 l q =>
    rename_i a dx vs S0
    have n1 := List.nodup_cons.mp ra.nd
    have n2 := List.nodup_cons.mp n1.2
    obtain ⟨p, xs, Sq, g1, g2, g3, g4, g5, g6, g7⟩ := RRpAll.sub j q er n2.2
    have ap' : a ≠ p := fun z => n1.1 (List.mem_cons_of_mem _ (z ▸ g4))
    have dp : dx ≠ p := fun z => n2.1 (z ▸ g4)
    refine ⟨a, dx, vs, S0, p, xs, Sq, hv, h, l, g1, g2, g3, g4, g5, g6, fun m => n1.1 (List.mem_cons_of_mem _ m), ra, ap, fun H' xs' qs' Sq' k k2 hp r' sb => ?_⟩
    obtain ⟨S', s1, s2⟩ := g7 H' xs' qs' Sq' (fun b m z1 z2 => k b fun z => (List.mem_cons.mp z).elim z1 z2) hp r' sb
    have ka : ∀ b, b ∈ [a, dx] → H' b = H b := fun b m => k b fun z => by
      simp only [List.mem_cons, List.not_mem_nil, or_false] at m
      rcases List.mem_cons.mp z with z | z
      · rcases m with rfl | rfl
        · exact ap' z
        · exact dp z
      · have := g6.subset z
        rcases m with rfl | rfl
        · exact n1.1 (List.mem_cons_of_mem _ this)
        · exact n2.1 this
    refine S.wrR ei hv ra ap (fun b nb => k b fun z => nb ?_) (fun b m => ?_) (.ins ((ka a (by simp)).trans h) ((ka dx (by simp)).trans h2) l s2) ((s1.cons_cons dx).cons_cons a)
    · rcases List.mem_cons.mp z with rfl | z
      · exact List.mem_cons_of_mem _ (List.mem_cons_of_mem _ g4)
      · exact List.mem_cons_of_mem _ (List.mem_cons_of_mem _ (g6.subset z))
    · by_cases z : b ∈ p :: Sq
      · rcases List.mem_cons.mp z with rfl | z
        · exact ⟨_, hp⟩
        · exact k2 b z
      · rw [k b z]
        obtain ⟨o, eo, _⟩ := RRp.at _ _ _ ra.rp b m
        exact ⟨o, eo⟩
theorem vs_rgApp (i c j : Nat) {x cx fn : Str} {p1 : Pos} (oc : Oc X.K X.mg T cx c) (he : VE X T EX B e f) (hf : (clsFlds c)[j]? = some fn := by rfl) (ndf : (clsFlds c).Nodup := by decide +kernel) (hN : X.N[i]? = some x := by rfl) (hv : Vis X.env.scope x := by first | exact Or.inl rfl | exact Or.inr (Or.inl rfl) | exact Or.inr (Or.inr rfl)) (hd : (x == ("__debug__" : Str)) = false := by decide) (hcd : (x == ("__classdict__" : Str)) = false := by decide)
    (hline : (apos.endLine == cpos.line) = true := by rfl) (hs : starEach [e] X.env = [(false, eval e X.env)] := by rfl) :
    VS X T EX B (.Expr (.Call (.Attribute (.Attribute (.Name x px) fn p1) "append" apos) [e] [] cpos) pos) (sRgApp i c j f) := by
  refine ps_weak (ps_expr (pe_bm PySem.F.plainAttrs_list PySem.F.slot_list_append PySem.F.type_list_append mt_append (pe_fld (pe_var hN hv hd hcd) rfl) (va_cons he va_nil hs) rfl (by rw [hs]; rfl) hline hs rfl) rfl) fun D σ H q => ?_
  obtain ⟨G, env, S, o⟩ := q
  unfold sRgApp at o
  split at o
  rotate_left
  · exact o.elim
  rename_i c' rs ei
  split at o
  rotate_left
  · exact o.elim
  rename_i ec
  subst ec
  split at o
  rotate_left
  · exact o.elim
  rename_i qs eq
  have er := subL_eq eq
  obtain ⟨a, dx, vs, S0, p, xs, Sq, hv', h, ll, g1, g2, g3, g4, g5, g6, g8, ra, ap, _⟩ := rg_open S ei er
  refine ⟨.ref a, hv', a, _, dx, _, .ref p, rfl, h, oc.cl, oc.na fn (List.mem_of_getElem? hf), zip_lookup (by rw [oc.fl]; exact ndf) (by rw [oc.fl]; exact hf) g1, .inl ⟨rfl, xs, SqL.of g2⟩,
    args1 (D := D) (K := fun a => match a with | .sh d => if qs.length ≤ 1000000 then .nx (env.set i (some (.rg (.ins c' (rs.set j (.lst (qs ++ [.dat d]))))))) else .stuck | _ => .stuck) S ?_ fun w v G1 H1 s1 rp S1 o1 => ?_⟩
  · revert o
    cases evA [f] env with
    | val as =>
      cases as with
      | nil => exact fun o => o
      | cons a r =>
        cases r with
        | nil => cases a <;> exact fun o => o
        | cons _ _ => exact fun o => by cases a <;> exact o
    | err c => exact fun o => o
    | stuck => exact fun o => o
  · cases w with
    | sh d =>
      dsimp only at o1
      split at o1
      rotate_left
      · exact o1.elim
      rename_i hl
      obtain ⟨a', dx', vs', S0', p', xs', Sq', hv2, h', ll', g1', g2', g3', g4', g5', g6', g8', ra', ap', fin⟩ := rg_open S1 ei er
      rw [hv'] at hv2; cases hv2
      obtain ⟨_, ka⟩ := s1.keepS (fun b m => (ra.nw b m).1) (RRp.at _ _ _ ra.rp)
      have ea := ka a List.mem_cons_self
      rw [h, h'] at ea
      injection ea with ea
      injection ea with _ e2 e3
      subst e2
      have e4 := zip_inj ll' ll e3
      subst e4
      rw [g1] at g1'
      injection g1' with e5
      injection e5 with e5
      subst e5
      refine ⟨p, xs', v, rfl, rfl, g2', by rw [g3'.len]; exact gl_line hl, o1 G1 σ _ (Same.refl _) (fin _ (xs' ++ [v]) (qs ++ [.dat d]) Sq' (fun b nb => upd_ne fun z => nb (z ▸ List.mem_cons_self)) (fun b m => ?_) upd_same ?_ (List.Sublist.refl _))⟩
      · obtain ⟨o, eo, _⟩ := RRpAll.at _ _ _ g3' b m
        exact ⟨o, by rw [upd_ne (show b ≠ p from fun z => g5' (z ▸ m))]; exact eo⟩
      · have z := RRpAll.snoc (S' := []) (.dat rp) (RRpAll.mono (T' := T) (H' := upd H1 p (.lst (xs' ++ [v]))) (Same.refl G1) rfl rfl _ _ _ g3' fun b m => upd_ne (show b ≠ p from fun z => g5' (z ▸ m)))
        rw [List.append_nil] at z
        exact z
    | ow _ => exact o1.elim
    | ob _ _ => exact o1.elim
    | rg _ => exact o1.elim
theorem vs_rgPop (i c j : Nat) {x cx fn : Str} {p1 : Pos} (oc : Oc X.K X.mg T cx c) (hf : (clsFlds c)[j]? = some fn := by rfl) (ndf : (clsFlds c).Nodup := by decide +kernel) (hN : X.N[i]? = some x := by rfl) (hv : Vis X.env.scope x := by first | exact Or.inl rfl | exact Or.inr (Or.inl rfl) | exact Or.inr (Or.inr rfl)) (hd : (x == ("__debug__" : Str)) = false := by decide) (hcd : (x == ("__classdict__" : Str)) = false := by decide)
    (hline : (apos.endLine == cpos.line) = true := by rfl) : VS X T EX B (.Expr (.Call (.Attribute (.Attribute (.Name x px) fn p1) "pop" apos) [] [] cpos) pos) (sRgPop i c j) := by
  refine ps_weak (ps_expr (pe_bm0 PySem.F.plainAttrs_list PySem.F.slot_list_pop PySem.F.type_list_pop mt_pop (pe_fld (pe_var hN hv hd hcd) rfl) rfl hline) rfl) fun D σ H q => ?_
  obtain ⟨G, env, S, o⟩ := q
  unfold sRgPop at o
  split at o
  rotate_left
  · exact o.elim
  rename_i c' rs ei
  split at o
  rotate_left
  · exact o.elim
  rename_i ec
  subst ec
  split at o
  rotate_left
  · exact o.elim
  rename_i qs eq
  split at o
  · exact o.elim
  rename_i hn
  have er := subL_eq eq
  obtain ⟨a, dx, vs, S0, p, xs, Sq, hv', h, ll, g1, g2, g3, g4, g5, g6, g8, ra, ap, fin⟩ := rg_open S ei er
  have lx := g3.len
  obtain ⟨y, hy⟩ : ∃ y, xs[xs.length - 1]? = some y := ⟨xs[xs.length - 1]'(by omega), List.getElem?_eq_getElem _⟩
  obtain ⟨S', s1, s2⟩ := g3.dropLast
  refine ⟨.ref a, hv', a, _, dx, _, .ref p, rfl, h, oc.cl, oc.na fn (List.mem_of_getElem? hf), zip_lookup (by rw [oc.fl]; exact ndf) (by rw [oc.fl]; exact hf) g1, .inl ⟨rfl, xs, SqL.of g2⟩, p, xs, y, rfl, rfl, g2, hy, o G _ _ (Same.refl _) (fin _ xs.dropLast qs.dropLast S' (fun b nb => upd_ne fun z => nb (z ▸ List.mem_cons_self)) (fun b m => ?_) upd_same ?_ s1)⟩
  · obtain ⟨o, eo, _⟩ := RRpAll.at _ _ _ g3 b m
    exact ⟨o, by rw [upd_ne (show b ≠ p from fun z => g5 (z ▸ m))]; exact eo⟩
  · exact RRpAll.mono (T' := T) (Same.refl G) rfl rfl _ _ _ s2 fun b m => upd_ne (show b ≠ p from fun z => g5 (z ▸ s1.subset m))
end
end VL
namespace VL
open PySem L2
/-! ### is, is not of truths -/
@[simp] def fIs : D → D → R
  | .bool a, .bool b => rb (a == b)
  | _, _ => .stuck
@[simp] def fIsn : D → D → R
  | .bool a, .bool b => rb (!(a == b))
  | _, _ => .stuck
section
variable {X : Cx} {T : Ct} {EX : XK}
theorem dec_beq (a b : Bool) : decide (a = b) = (a == b) := by cases a <;> cases b <;> rfl
theorem c_is : Cmp X T EX .Is fIs (fun x y H Q => ∃ a b, x = .bl a ∧ y = .bl b ∧ Q (.bl (decide (a = b))) H) := ⟨op_is_bl, fun Q x y dx dy G H gh hx hy o => by
  unfold fIs at o
  split at o
  · rw [hx.blInv, hy.blInv]; exact ⟨_, _, rfl, rfl, by rw [dec_beq]; exact o.rb gh⟩
  · exact o.elim⟩
theorem c_isn : Cmp X T EX .IsNot fIsn (fun x y H Q => ∃ a b, x = .bl a ∧ y = .bl b ∧ Q (.bl (!decide (a = b))) H) := ⟨op_isnot_bl, fun Q x y dx dy G H gh hx hy o => by
  unfold fIsn at o
  split at o
  · rw [hx.blInv, hy.blInv]; exact ⟨_, _, rfl, rfl, by rw [dec_beq]; exact o.rb gh⟩
  · exact o.elim⟩
end
/-! ### a list of lists of one's own -/
@[simp] def isLstR : RD → Bool
  | .lst qs => decide (qs.length ≤ 100000)
  | _ => false
/-- for w in x: w.append(..): what is within x is not looked at any more -/
@[simp] def eachJ (qs : List RD) : Option (List RD) := if qs.all isLstR = true ∧ qs.length ≤ 100000 then some (qs.map fun _ => .jk) else none
@[simp] def sRgEachL (i w : Nat) : FS := fun env => match env[i]? with
  | some (some (.rg (.lst qs))) => (match eachJ qs with
    | some js => if i ≠ w ∧ w < env.length then .nx ((env.set i (some (.rg (.lst js)))).set w none) else .stuck
    | none => .stuck)
  | _ => .stuck
@[simp] def sRgEachF (i c j w : Nat) : FS := fun env => match env[i]? with
  | some (some (.rg (.ins c' rs))) => if c' = c then (match subL rs j with
    | some qs => (match eachJ qs with
      | some js => if i ≠ w ∧ w < env.length then .nx ((env.set i (some (.rg (.ins c (rs.set j (.lst js)))))).set w none) else .stuck
      | none => .stuck)
    | none => .stuck) else .stuck
  | _ => .stuck
/-- x = [list(w) for w in e] -/
@[simp] def sRgLL (i w : Nat) (f : FE) : FS := fun env => (f env).s fun v => match v.fz with
  | .sh (.list ws) => (match asLsts ws with
    | some wss => if wss.length ≤ 100000 ∧ noRg (env.set i none) = true ∧ w < env.length then .nx (env.set i (some (.rg (.lst (wss.map lstR))))) else .stuck
    | none => .stuck)
  | _ => .stuck
/-- x.append(e) -/
@[simp] def sRgAppL (i : Nat) (f : FE) : FS := fun env => match env[i]? with
  | some (some (.rg (.lst qs))) => (match evA [f] env with
    | .val [.sh d] => if qs.length ≤ 1000000 then .nx (env.set i (some (.rg (.lst (qs ++ [.dat d]))))) else .stuck
    | .err c => .err c
    | _ => .stuck)
  | _ => .stuck
section
variable {X : Cx} {T : Ct} {EX : XK} {B : Hp × Hp} {e a b c o tg : Expr} {es : List Expr} {pos p p2 apos cpos px : Pos} {f g h : FE} {fs gs : List FE} {G H G1 H1 : Hp} {Q : VK} {σ : L2.St} {env : VEnv} {D : Ends}
theorem Sim.forget (S : Sim T B G env σ H) (w : Nat) : Sim T B G (env.set w none) σ H := by
  by_cases hl : w < σ.length
  · have := S.setNone (i := w) (o := σ[w])
    rwa [List.set_getElem_self] at this
  · have : env.set w none = env := List.set_eq_of_length_le (by rw [S.len]; omega)
    rw [this]; exact S
theorem jks_rrp : ∀ {xs : List V} {qs : List RD}, xs.length = qs.length → RRpAll T G H [] xs (qs.map fun _ => .jk)
  | [], [], _ => .nil
  | _ :: _, _ :: _, h => .cons (S := []) (S' := []) .jk (jks_rrp (by simpa using h))
theorem RRpAll.at_lst : ∀ {qs : List RD} {S : List Addr} {vs : List V}, RRpAll T G H S vs qs → qs.all isLstR = true → ∀ (m : Nat) v, vs[m]? = some v → ∃ p ys, v = .ref p ∧ p ∈ S ∧ H p = some (.lst ys) ∧ ys.length ≤ 100000
  | [], _, _, .nil, _, m, v, h => by simp at h
  | q :: qs, _, _, .cons h a, al, m, v, hm => by
    simp only [List.all_cons, Bool.and_eq_true] at al
    cases m with
    | zero =>
      simp only [List.getElem?_cons_zero, Option.some.injEq] at hm
      subst hm
      cases h with
      | lst h1 h2 =>
        refine ⟨_, _, rfl, List.mem_append_left _ List.mem_cons_self, h1, ?_⟩
        rw [h2.len]
        have := al.1
        simpa using this
      | _ => exact absurd al.1 (by simp)
    | succ m =>
      obtain ⟨p, ys, e1, e2, e3, e4⟩ := RRpAll.at_lst a al.2 m v (by simpa using hm)
      exact ⟨p, ys, e1, List.mem_append_right _ e2, e3, e4⟩
/-- w.append('..') -/
def tbApp (K : PySem.W.Frag) (w : Nat) (s : Str) : TS := fun D σ H => tBM K "list" rAppend (tVar w) (tCons (tC (.str s)) tNil) σ H fun _ H' => D.nx σ H'
/-- the turns -/
theorem each_turns {K : PySem.W.Frag} {p : Addr} {xs : List V} {qs : List RD} {Sq : List Addr} {w : Nat} {s : Str} (hw : w < σ.length) (hp : H p = some (.lst xs)) (pq : p ∉ Sq) (ra : RRpAll T G H Sq xs qs) (al : qs.all isLstR = true) (lq : qs.length ≤ 100000)
    (fin : ∀ H' o, (∀ b, b ∉ Sq → H' b = H b) → (∀ b ∈ Sq, ∃ o, H' b = some o) → (o = σ ∨ ∃ v, o = σ.set w (some v)) → D.nx o H') :
    ∃ W : Nat → Nat → L2.St → Hp → Prop, (∃ m, W 0 m σ H) ∧ ∀ i m σ H, W i m σ H →
      ((Itl K p).stop i H ∧ D.nx σ H) ∨ ((Itl K p).go i H ∧ ∃ N : L2.St → Hp → Prop, (∀ σ' H', N σ' H' → ∃ m', m' < m ∧ W (i + 1) m' σ' H') ∧ ∀ x H', (Itl K p).yld i H x H' → gName w x σ H' fun σ2 H2 =>
        tbApp K w s { D with nx := N, ct := N, bk := D.nx } σ2 H2) := by
  have at_ := RRpAll.at _ _ _ ra
  refine for_list (K := K) (a := p) (xs := xs) (fun m o H' => (∀ b, b ∉ Sq → H' b = H b) ∧ (o = σ ∨ ∃ v, o = σ.set w (some v)) ∧ ∀ b ∈ Sq, (∃ o, H' b = some o) ∧ ∀ ys, H b = some (.lst ys) → ∃ ys', H' b = some (.lst ys') ∧ ys'.length ≤ ys.length + m) ?_ ?_ ?_ ?_
  · exact ⟨fun _ _ => rfl, .inl rfl, fun b m => ⟨let ⟨o, e, _⟩ := at_ b m; ⟨o, e⟩, fun ys e => ⟨ys, e, Nat.le_refl _⟩⟩⟩
  · rintro i o H' hi ⟨h1, _⟩
    exact SqL.of ((h1 p pq).trans hp)
  · rintro i x o H' hx ⟨h1, h2, h3⟩
    obtain ⟨b, ys, rfl, mb, hb, lb⟩ := RRpAll.at_lst ra al i x hx
    obtain ⟨_, h4⟩ := h3 b mb
    obtain ⟨ys', hb', lb'⟩ := h4 ys hb
    have hi : i < xs.length := (List.getElem?_eq_some_iff.mp hx).1
    have lx := ra.len
    have ow : w < o.length := by
      rcases h2 with rfl | ⟨v, rfl⟩
      · exact hw
      · rw [List.length_set]; exact hw
    have h5 : ∃ v, o.set w (some (.ref b)) = σ.set w (some v) := by
      rcases h2 with rfl | ⟨v, rfl⟩
      · exact ⟨_, rfl⟩
      · exact ⟨_, by rw [List.set_set]⟩
    refine ⟨.ref b, List.getElem?_set_self ow, .inl ⟨rfl, ys', SqL.of hb'⟩, b, ys', .str s, rfl, rfl, hb', gl_line (by omega), fun c nc => ?_, .inr h5, fun c mc => ?_⟩
    · rw [upd_ne (show c ≠ b from fun z => nc (z ▸ mb))]; exact h1 c nc
    · by_cases z : c = b
      · subst z
        refine ⟨⟨_, upd_same⟩, fun zs e => ⟨_, upd_same, ?_⟩⟩
        rw [hb] at e; cases e
        rw [List.length_append, List.length_singleton]; omega
      · rw [upd_ne z]
        refine ⟨(h3 c mc).1, fun zs e => ?_⟩
        obtain ⟨ys2, e2, l2⟩ := (h3 c mc).2 zs e
        exact ⟨ys2, e2, by omega⟩
  · rintro o H' ⟨h1, h2, h3⟩
    exact fin H' o h1 (fun b m => (h3 b m).1) h2
theorem vs_rgEachL (i w : Nat) {x y s : Str} {j : Nat} {py pw p1 : Pos} {apos cpos spos : Pos} (C : Cv X T EX B) (po : PassesOwn (model X.prog X.w) X.A X.env X.xe) (hi : X.N[i]? = some x := by rfl) (hw : X.N[w]? = some y := by rfl)
    (vi : Vis X.env.scope x := by first | exact Or.inl rfl | exact Or.inr (Or.inl rfl) | exact Or.inr (Or.inr rfl)) (vw : Vis X.env.scope y := by first | exact Or.inl rfl | exact Or.inr (Or.inl rfl) | exact Or.inr (Or.inr rfl)) (lw : Loc X.env.scope y := by first | exact .inl rfl | exact .inr rfl) (fw : X.fn y = true ∨ X.env.scope.names.lookup y = some .local := by first | exact .inl rfl | exact .inr rfl)
    (di : (x == ("__debug__" : Str)) = false := by decide) (ci : (x == ("__classdict__" : Str)) = false := by decide) (dw : (y == ("__debug__" : Str)) = false := by decide) (cw : (y == ("__classdict__" : Str)) = false := by decide) (hline : (apos.endLine == cpos.line) = true := by rfl) :
    VS X T EX B (.For (.Name y py) (.Name x px) [.Expr (.Call (.Attribute (.Name y pw) "append" apos) [.Constant (.str s) j p1] [] cpos) spos] [] pos) (sRgEachL i w) := by
  refine ps_weak (ps_for (tb := tbApp X.K w s) po C.calm (pi_list (pe_var hi vi di ci)) (pg_name (i := w) C.nd hw lw fw) (pss_one (ps_expr (pe_bm PySem.F.plainAttrs_list PySem.F.slot_list_append PySem.F.type_list_append mt_append (pe_var hw vw dw cw) (pa_cons pe_str pa_nil rfl) rfl rfl hline rfl rfl) rfl)) fun _ => rfl) fun D σ H q => ?_
  obtain ⟨G, env, S, o⟩ := q
  unfold sRgEachL at o
  split at o
  rotate_left
  · exact o.elim
  rename_i qs ei
  split at o
  rotate_left
  · exact o.elim
  rename_i js ej
  split at o
  rotate_left
  · exact o.elim
  rename_i ne
  unfold eachJ at ej
  split at ej
  rotate_left
  · cases ej
  rename_i cj
  cases ej
  obtain ⟨u, v, F, hv, ra, ap⟩ := S.rg i _ ei
  have rp := ra.rp
  cases rp with
  | lst h q =>
    rename_i p vs Sq
    have n1 := List.nodup_cons.mp ra.nd
    have hwl : w < σ.length := S.len ▸ ne.2
    refine ⟨.ref p, hv, p, rfl, ⟨vs, SqL.of h⟩, each_turns (T := T) (G := G) hwl h n1.1 q cj.1 cj.2 fun H' o' k k2 ho => ?_⟩
    have S2 := S.wrR (r' := .lst (qs.map fun _ => .jk)) (F' := [p]) (H' := H') ei hv ra ap (fun b nb => k b fun z => nb (List.mem_cons_of_mem _ z)) (fun b m => by
      rcases List.mem_cons.mp m with rfl | m
      · exact ⟨_, (k _ n1.1).trans h⟩
      · exact k2 b m) (.lst (S := []) ((k p n1.1).trans h) (jks_rrp q.len)) (by simp)
    rcases ho with rfl | ⟨v2, rfl⟩
    · exact o G _ H' (Same.refl _) (S2.forget w)
    · exact o G _ H' (Same.refl _) (S2.setNone (i := w))
theorem vs_rgEachF (i c j w : Nat) {x y s cx fn : Str} {jj : Nat} {py pw p1 : Pos} {apos cpos spos : Pos} (C : Cv X T EX B) (po : PassesOwn (model X.prog X.w) X.A X.env X.xe) (oc : Oc X.K X.mg T cx c) (hf : (clsFlds c)[j]? = some fn := by rfl) (ndf : (clsFlds c).Nodup := by decide +kernel) (hi : X.N[i]? = some x := by rfl) (hw : X.N[w]? = some y := by rfl)
    (vi : Vis X.env.scope x := by first | exact Or.inl rfl | exact Or.inr (Or.inl rfl) | exact Or.inr (Or.inr rfl)) (vw : Vis X.env.scope y := by first | exact Or.inl rfl | exact Or.inr (Or.inl rfl) | exact Or.inr (Or.inr rfl)) (lw : Loc X.env.scope y := by first | exact .inl rfl | exact .inr rfl) (fw : X.fn y = true ∨ X.env.scope.names.lookup y = some .local := by first | exact .inl rfl | exact .inr rfl)
    (di : (x == ("__debug__" : Str)) = false := by decide) (ci : (x == ("__classdict__" : Str)) = false := by decide) (dw : (y == ("__debug__" : Str)) = false := by decide) (cw : (y == ("__classdict__" : Str)) = false := by decide) (hline : (apos.endLine == cpos.line) = true := by rfl) :
    VS X T EX B (.For (.Name y py) (.Attribute (.Name x px) fn p2) [.Expr (.Call (.Attribute (.Name y pw) "append" apos) [.Constant (.str s) jj p1] [] cpos) spos] [] pos) (sRgEachF i c j w) := by
  refine ps_weak (ps_for (tb := tbApp X.K w s) po C.calm (pi_list (pe_fld (pe_var hi vi di ci) rfl)) (pg_name (i := w) C.nd hw lw fw) (pss_one (ps_expr (pe_bm PySem.F.plainAttrs_list PySem.F.slot_list_append PySem.F.type_list_append mt_append (pe_var hw vw dw cw) (pa_cons pe_str pa_nil rfl) rfl rfl hline rfl rfl) rfl)) fun _ => rfl) fun D σ H q => ?_
  obtain ⟨G, env, S, o⟩ := q
  unfold sRgEachF at o
  split at o
  rotate_left
  · exact o.elim
  rename_i c' rs ei
  split at o
  rotate_left
  · exact o.elim
  rename_i ec
  subst ec
  split at o
  rotate_left
  · exact o.elim
  rename_i qs eq
  split at o
  rotate_left
  · exact o.elim
  rename_i js ej
  split at o
  rotate_left
  · exact o.elim
  rename_i ne
  unfold eachJ at ej
  split at ej
  rotate_left
  · cases ej
  rename_i cj
  cases ej
  have er := subL_eq eq
  obtain ⟨a, dx, vs, S0, p, xs, Sq, hv', h, ll, g1, g2, g3, g4, g5, g6, g8, ra, ap, fin⟩ := rg_open S ei er
  refine ⟨.ref a, hv', a, _, dx, _, .ref p, rfl, h, oc.cl, oc.na fn (List.mem_of_getElem? hf), zip_lookup (by rw [oc.fl]; exact ndf) (by rw [oc.fl]; exact hf) g1, p, rfl, ⟨xs, SqL.of g2⟩, each_turns (T := T) (G := G) (S.len ▸ ne.2) g2 g5 g3 cj.1 cj.2 fun H' o' k k2 ho => ?_⟩
  have S2 := fin H' xs (qs.map fun _ => .jk) [] (fun b nb => k b fun z => nb (List.mem_cons_of_mem _ z)) k2 ((k p g5).trans g2) (jks_rrp g3.len) (List.nil_sublist _)
  rcases ho with rfl | ⟨v2, rfl⟩
  · exact o G _ H' (Same.refl _) (S2.forget w)
  · exact o G _ H' (Same.refl _) (S2.setNone (i := w))
/-- x = [list(w) for w in e] on one line -/
theorem vs_rgLL (i w : Nat) {y wn : Str} {py pw pl pw2 pc : Pos} {iter : Expr} {scope : Scope} {spos : Pos} (C : Cv X T EX B) (hi : VE X T EX B iter f) (ok : BlkOk X.N X.env.scope scope [(wn, w)]) (hwn : X.N[w]? = some wn := by rfl)
    (lw : ∀ (s : Shared) (H : Hp) (C : Addr) (cl : List (Str × Addr)) (fp : List Addr), PG (X.blk s H scope (compEnvC scope cl C X.env) fp) (.Name wn pw) (gName w))
    (le : ∀ (s : Shared) (H : Hp) (C : Addr) (cl : List (Str × Addr)) (fp : List Addr), PE (X.blk s H scope (compEnvC scope cl C X.env) fp) (.Call (.Name "list" pl) [.Name wn pw2] [] pc) (tCB (rList X.K) (tCons (tVar w) tNil)))
    (hs : ∀ x, foldedSetIterable iter X.env x = pure x := by intro _; rfl)
    (hy : X.N[i]? = some y := by rfl) (hyl : X.env.scope.names.lookup y = some .local := by rfl) (hsw : swapsWith (.ListComp (.Call (.Name "list" pl) [.Name wn pw2] [] pc) [⟨.Name wn pw, iter, [], 0⟩] scope pos) (some (.Name y py)) spos.line X.env = pure true := by exact sw_true rfl rfl rfl (by decide +kernel)) :
    VS X T EX B (.Assign [.Name y py] (.ListComp (.Call (.Name "list" pl) [.Name wn pw2] [] pc) [⟨.Name wn pw, iter, [], 0⟩] scope pos) spos) (sRgLL i w f) := ps_weak (ps_setLc C.calm C.nd hy hyl hsw (pi_list hi) ok lw (fun _ _ _ _ _ => pts_nil) le hs) fun D σ H q => by
  obtain ⟨G, env, S, o⟩ := q
  refine seqS S o fun v _ o => Out.fz fun x G' H' s rp => ?_
  have S1 := S.step s
  have o := o.step s.gg
  split at o
  rotate_left
  · exact o.elim
  rename_i ws ew
  rw [ew] at rp
  split at o
  rotate_left
  · exact o.elim
  rename_i wss es
  split at o
  rotate_left
  · exact o.elim
  rename_i cn
  have em := asLsts_map es
  subst em
  obtain ⟨l, xs, rfl, sq, q1⟩ := Dq.lstInv rp
  have hwl : w < σ.length := S.len ▸ cn.2.2
  refine ⟨l, rfl, ⟨xs, sqL_K (S1.gh.seq sq)⟩, fun D' hD => lc_lists (T := T) (G := G') (wss := wss) (i := w) hwl S1.gh (S1.gh.seq sq) q1 hD cn.1 fun Hc acc F h1 h2 h3 h4 h5 h6 => ?_⟩
  have st : Step G' H' G' Hc := ⟨.of h1, Same.refl _, fun b o e => h1 b o (S1.gh b o e), fun _ a b => absurd a b, fun n => n⟩
  refine o G' _ Hc (Same.refl _) ((S1.step st).setRg cn.2.1 (F := D' :: F) ⟨.lst h2 h3, List.nodup_cons.mpr ⟨h5, h4⟩, fun a m => ?_⟩ fun j ds p e1 e2 m => ?_)
  · have : H' a = none := by
      rcases List.mem_cons.mp m with rfl | m
      · exact hD
      · exact h6 a m
    exact ⟨same_none S1.gh this, SameH.free S1.st.hh this⟩
  · obtain ⟨p', ys, g1, g2, _⟩ := S1.ow j ds e1
    rw [e2] at g1; cases g1
    have : H' p = none := by
      rcases List.mem_cons.mp m with rfl | m
      · exact hD
      · exact h6 p m
    rw [g2] at this; cases this
theorem vs_rgAppL (i : Nat) {x : Str} (he : VE X T EX B e f) (hN : X.N[i]? = some x := by rfl) (hv : Vis X.env.scope x := by first | exact Or.inl rfl | exact Or.inr (Or.inl rfl) | exact Or.inr (Or.inr rfl)) (hd : (x == ("__debug__" : Str)) = false := by decide) (hcd : (x == ("__classdict__" : Str)) = false := by decide)
    (hline : (apos.endLine == cpos.line) = true := by rfl) (hs : starEach [e] X.env = [(false, eval e X.env)] := by rfl) :
    VS X T EX B (.Expr (.Call (.Attribute (.Name x px) "append" apos) [e] [] cpos) pos) (sRgAppL i f) := by
  refine ps_weak (ps_expr (pe_bm PySem.F.plainAttrs_list PySem.F.slot_list_append PySem.F.type_list_append mt_append (pe_var hN hv hd hcd) (va_cons he va_nil hs) rfl (by rw [hs]; rfl) hline hs rfl) rfl) fun D σ H q => ?_
  obtain ⟨G, env, S, o⟩ := q
  unfold sRgAppL at o
  split at o
  rotate_left
  · exact o.elim
  rename_i qs ei
  obtain ⟨u, v, F, hv', ra, ap⟩ := S.rg i _ ei
  have rp := ra.rp
  cases rp with
  | lst h q =>
    rename_i p xs Sq
    refine ⟨.ref p, hv', .inl ⟨rfl, xs, SqL.of h⟩, args1 (D := D) (K := fun a => match a with | .sh d => if qs.length ≤ 1000000 then .nx (env.set i (some (.rg (.lst (qs ++ [.dat d]))))) else .stuck | _ => .stuck) S ?_ fun w v G1 H1 s1 rp S1 o1 => ?_⟩
    · revert o
      cases evA [f] env with
      | val as =>
        cases as with
        | nil => exact fun o => o
        | cons a r =>
          cases r with
          | nil => cases a <;> exact fun o => o
          | cons _ _ => exact fun o => by cases a <;> exact o
      | err c => exact fun o => o
      | stuck => exact fun o => o
    · cases w with
      | ow _ => exact o1.elim
      | ob _ _ => exact o1.elim
      | rg _ => exact o1.elim
      | sh d =>
        dsimp only at o1
        split at o1
        rotate_left
        · exact o1.elim
        rename_i hl
        have ra1 := ra.step s1
        obtain ⟨_, ka⟩ := s1.keepS (fun b m => (ra.nw b m).1) (RRp.at _ _ _ ra.rp)
        have n1 := List.nodup_cons.mp ra.nd
        have h1 : H1 p = some (.lst xs) := (ka p List.mem_cons_self).trans h
        have q1 := RRpAll.mono (T' := T) (H' := upd H1 p (.lst (xs ++ [v]))) s1.gg rfl rfl _ _ _ q fun b m => (upd_ne (show b ≠ p from fun z => n1.1 (z ▸ m))).trans (ka b (List.mem_cons_of_mem _ m))
        have z := RRpAll.snoc (S' := []) (.dat rp) q1
        rw [List.append_nil] at z
        refine ⟨p, xs, v, rfl, rfl, h1, by rw [q.len]; exact gl_line hl, o1 G1 σ _ (Same.refl _) (S1.wrR (F' := p :: Sq) ei hv' ra1 ap (fun b nb => upd_ne fun z => nb (z ▸ List.mem_cons_self)) (fun b m => ?_) (.lst upd_same z) (List.Sublist.refl _))⟩
        rcases List.mem_cons.mp m with rfl | m
        · exact ⟨_, upd_same⟩
        · obtain ⟨o, eo, _⟩ := RRpAll.at _ _ _ z b m
          exact ⟨o, eo⟩
end
end VL
namespace VL
open PySem L2
/-! ### x -= e, len(set(x)), list(range(n)), x = {} -/
@[simp] def sSub (i : Nat) (f : FE) : FS := fun env => match env[i]? with
  | some (some (.sh (.int x))) => (match f env with
    | .val (.sh (.int y)) => .nx (env.set i (some (.sh (.int (x - y)))))
    | .err c => .err c
    | _ => .stuck)
  | _ => .stuck
/-- how many items a list of unlike ints has, as a set -/
@[simp] def fLenSet : D → R
  | .list ds => (match intsOf ds with
    | some ns => if ns.Nodup ∧ ns.length ≤ 4000 then ri (ns.length : Nat) else .stuck
    | none => .stuck)
  | _ => .stuck
@[simp] def fListRg : D → R
  | .int n => if 0 ≤ n ∧ n ≤ 1000000 then .val (.ow (rngD 0 1 n.toNat)) else .stuck
  | _ => .stuck
@[simp] def fDivW : D → D → R
  | .int i, .int j => if 0 < j ∧ j < 2 ^ 400 then ri (i / j) else .stuck
  | _, _ => .stuck
@[simp] def noObE : Option SV → Bool
  | some (.ob _ _) => false
  | some (.rg _) => false
  | _ => true
/-- x = {}, then the rest -/
def sTab (i : Nat) (s : FS) : FS := fun env => if env.all noObE = true then (match s (env.set i (some (.ob 101 []))) with
  | .rt (.sh d) => .rt (.sh d)
  | .rt (.ow ds) => .rt (.ow ds)
  | .err c => .err c
  | _ => .stuck) else .stuck
section
variable {X : Cx} {T : Ct} {EX : XK} {B : Hp × Hp} {e a : Expr} {pos p p2 q : Pos} {f : FE} {G H : Hp} {Q : VK} {rest : List Stmt} {s : FS}
theorem vs_sub (i : Nat) {x : Str} {px : Pos} (C : Cv X T EX B) (he : VE X T EX B e f) (hN : X.N[i]? = some x := by rfl) (hx : Loc X.env.scope x := by first | exact .inl rfl | exact .inr rfl) (hf : X.fn x = true ∨ X.env.scope.names.lookup x = some .local := by first | exact .inl rfl | exact .inr rfl) :
    VS X T EX B (.AugAssign (.Name x px) .Sub e pos) (sSub i f) := ps_weak (ps_aug C.nd hN hx he ip_sub hf) fun D σ H q => by
  obtain ⟨G, env, S, o⟩ := q
  unfold sSub at o
  split at o
  · rename_i dx e
    obtain ⟨v, h1, h2⟩ := S.sh i _ e
    refine ⟨v, h1, G, env, S, ?_⟩
    split at o
    · rename_i y ey
      rw [ey]
      intro w G' H' s' dy
      rw [h2.intInv, dy.intInv]
      exact ⟨_, _, rfl, rfl, o G' _ H' s'.gg ((S.step s').setSh .int)⟩
    · rename_i c ey
      rw [ey]; exact fun H' z => o H' (S.st.hh.trans z)
    · exact o.elim
  · exact o.elim
theorem ve_lenSet (C : Cv X T EX B) (t1 : Bt X "len") (t2 : Bt X "set") (ha : VE X T EX B a f) (na : starEach [a] X.env = (false, eval a X.env) :: starEach [] X.env := by rfl) : VE X T EX B (.Call (.Name "len" p) [.Call (.Name "set" p2) [a] [] q] [] pos) (op1 fLenSet f) :=
  pe_weak (RZ.pe_lenSetI t1.gl t1.mg t2.gl t2.mg ha C.calm na) fun σ H Q q => use1 (r := fun x H1 Q => ∃ (l : Addr) (ns : List Int), x = .ref l ∧ SqL X.K H1 l (ns.map V.int) ∧ ns.Nodup ∧ ns.length ≤ 4000 ∧ Q (.int (ns.length : Nat)) H1) (fun x dx G H gh hx o => by
    unfold fLenSet at o
    split at o
    · split at o
      · rename_i ns en
        split at o
        · rename_i c
          obtain ⟨l, xs, rfl, s1, q1⟩ := hx.lstH gh
          have := intsOf_ok en q1
          subst this
          exact ⟨l, ns, rfl, sqL_K s1, c.1, c.2, o.ri gh⟩
        · exact o.elim
      · exact o.elim
    · exact o.elim) q
theorem rg_dq (n : Int) (h : 0 ≤ n) : DqAll G (rgV 0 n) (rngD 0 1 n.toNat) := by
  have e : (n - 0).toNat = n.toNat := by rw [Int.sub_zero]
  unfold rgV rngD
  rw [e]
  generalize List.range n.toNat = L
  induction L with
  | nil => exact .nil
  | cons a L ih =>
    rw [List.map_cons, List.map_cons]
    refine .cons ?_ ih
    rw [Int.mul_one]
    exact .int
theorem ve_listRg (C : Cv X T EX B) (t1 : Bt X "list") (t2 : Bt X "range") (ha : VE X T EX B a f) (na : starEach [.Call (.Name "range" p2) [a] [] q] X.env = (false, eval (.Call (.Name "range" p2) [a] [] q) X.env) :: starEach [] X.env := by rfl) (nb : starEach [a] X.env = (false, eval a X.env) :: starEach [] X.env := by rfl) : VE X T EX B (.Call (.Name "list" p) [.Call (.Name "range" p2) [a] [] q] [] pos) (op1 fListRg f) :=
  pe_weak (pe_listRg C.calm t1.gl t1.mg (prg_1 t2.gl t2.mg ha nb) na) fun σ H Q q => use1 (r := fun x H1 Q => ∃ n, x = .int n ∧ (L2.RgOk 0 n ∧ ∀ q, H1 q = none → Q (.ref q) (upd H1 q (.lst (rgV 0 n))))) (fun x dx G H gh hx o => by
    unfold fListRg at o
    split at o
    · rename_i n
      split at o
      · rename_i c
        rw [hx.intInv]
        exact ⟨n, rfl, RgOk.of_le (by omega) (by omega) (by omega) (by omega), o.newL gh (rg_dq n c.1)⟩
      · exact o.elim
    · exact o.elim) q
theorem Sim.tab {env : VEnv} {σ : L2.St} (S : Sim T B G env σ H) {i : Nat} {r : Addr} (hr : H r = none) (n : env.all noObE = true) : Sim { T with me := some r } B G (env.set i (some (.ob 101 []))) (σ.set i (some (.ref r))) (upd H r (.dT [])) := by
  have st : Step G H G (upd H r (.dT [])) := Step.apart S.gh hr _
  have S1 := S.step st
  have nob : ∀ (j : Nat) c fs, env[j]? ≠ some (some (.ob c fs)) := fun j c fs z => by
    have := List.all_eq_true.mp n _ (List.mem_of_getElem? z)
    simp at this
  have nrg : ∀ (j : Nat) r, env[j]? ≠ some (some (.rg r)) := fun j r z => by
    have := List.all_eq_true.mp n _ (List.mem_of_getElem? z)
    simp at this
  have S2 : Sim { T with me := some r } B G env σ (upd H r (.dT [])) :=
    ⟨S1.st, S1.nb, fun b z => by cases z; exact ⟨_, upd_same, memK_nil⟩, S1.len, S1.sh, fun j c fs z => absurd z (nob j c fs), S1.ow, S1.ap, fun j r z => absurd z (nrg j r)⟩
  refine S2.setOb ?_
  unfold ObRp
  rw [if_neg (by decide), if_pos rfl]
  exact ⟨r, rfl, rfl⟩
theorem vss_tab (i : Nat) {x : Str} {pos' : Pos} (C : Cv X T EX B) (h : ∀ me : Addr, VSs X { T with me := some me } EX B rest s) (hi : X.N[i]? = some x := by rfl) (hx : Loc X.env.scope x := by first | exact .inl rfl | exact .inr rfl) (hs : swapsWith (.Dict [] [] p) (some (.Name x pos')) pos.line X.env = pure false := by rfl) (hf : X.fn x = true ∨ X.env.scope.names.lookup x = some .local := by first | exact .inl rfl | exact .inr rfl) :
    VSs X T EX B (.Assign [.Name x pos'] (.Dict [] [] p) pos :: rest) (sTab i s) := by
  have hr : PSs X rest (fun D σ H => ∃ me : Addr, rdS { T with me := some me } EX B s D σ H) := ⟨fun pins s' σ H D I ⟨me, q⟩ => (h me).run pins s' σ H D I q⟩
  refine pss_weak (pss_cons (ps_set C.nd hi hx pe_dnewT hs hf) hr) fun D σ H q => ?_
  obtain ⟨G, env, S, o⟩ := q
  intro r hr
  unfold sTab at o
  split at o
  rotate_left
  · exact o.elim
  rename_i n
  refine ⟨r, G, _, S.tab hr n, ?_⟩
  revert o
  cases s (env.set i (some (.ob 101 []))) with
  | nx e => exact fun o => o.elim
  | stuck => exact fun o => o
  | err c => exact fun o => o
  | rt v =>
    cases v with
    | sh d => exact fun o => o
    | ow ds => exact fun o => o
    | ob _ _ => exact fun o => o.elim
    | rg _ => exact fun o => o.elim
theorem ve_fdivW {b : Expr} {g : FE} (ha : VE X T EX B a f) (hb : VE X T EX B b g) : VE X T EX B (.BinOp a .FloorDiv b pos) (op2 fDivW f g) := by
  refine ve_bin op_fdivW (fun Q x y dx dy G H gh hx hy o => ?_) ha hb
  unfold fDivW at o
  split at o
  · rename_i i j
    rw [hx.intInv, hy.intInv]
    split at o
    · rename_i hm
      refine ⟨_, _, rfl, rfl, ⟨hm.1, ?_⟩, o.ri gh⟩
      have h0 : j.natAbs ≠ 0 := by omega
      have h1 : j.natAbs < 2 ^ 400 := by omega
      exact Nat.lt_trans ((Nat.log2_lt h0).mpr h1) (by omega)
    · exact o.elim
  · exact o.elim
theorem Cv.tab (C : Cv X T EX B) (me : Addr) : Cv X { T with me := some me } EX B := ⟨C.calm, C.nd, C.pass, C.un, C.gd⟩
end
end VL
namespace VL
open PySem L2
/-! ### a dict whose keys are heaps -/
mutual
theorem hash_any (w w' : World) : ∀ d : D, nkOk d = true → (nkOf d).hash w = (nkOf d).hash w'
  | .int i, _ => by simp only [nkOf, NestedKey.hash]
  | .tuple ds, h => by
    simp only [nkOf, NestedKey.hash]
    simp only [nkOk] at h
    rw [hashes_any w w' ds h]
  | .none, h => by simp [nkOk] at h
  | .bool _, h => by simp [nkOk] at h
  | .str _, h => by simp [nkOk] at h
  | .list _, h => by simp [nkOk] at h
  | .dict _, h => by simp [nkOk] at h
theorem hashes_any (w w' : World) : ∀ ds : List D, nksOk ds = true → NestedKey.hashes w (nksOf ds) = NestedKey.hashes w' (nksOf ds)
  | [], _ => by simp only [nksOf, NestedKey.hashes]
  | d :: ds, h => by
    simp only [nksOk, Bool.and_eq_true] at h
    simp only [nksOf, NestedKey.hashes]
    rw [hash_any w w' d h.1, hashes_any w w' ds h.2]
end
def lookD (kvs : List (D × Int)) (k : D) : Option Int := (kvs.find? fun e => decide (nkOf e.1 = nkOf k)).map (·.2)
def putD (kvs : List (D × Int)) (k : D) (v : Int) : List (D × Int) := if (lookD kvs k).isSome then kvs.map (fun e => if nkOf e.1 = nkOf k then (e.1, v) else e) else kvs ++ [(k, v)]
def keyOk (k : D) : Bool := nkOk k && decide ((nkOf k).depth ≤ 8)
def PK (G : Hp) (x : D × Int) (y : NestedKey × Addr × Value) : Prop := y.1 = nkOf x.1 ∧ Dq G (.ref y.2.1) x.1 ∧ nkOk x.1 = true ∧ (nkOf x.1).depth ≤ 8 ∧ ∃ t, y.2.2 = .int x.2 t
section
variable {X : Cx} {pins : List (Addr × Obj)} {σ : L2.St} {G H : Hp} {s : Shared} {kvs : List (D × Int)} {xs : List (NestedKey × Addr × Value)} {p a : Addr} {k : D}
mutual
theorem nested_is (I : Inv X pins σ H s) (gh : Same G H) : ∀ (d : D) (v : V) (u : Value), nkOk d = true → Dq G v d → RelV v u → NestedIs s.heap (nkOf d) u
  | .int i, v, u, _, h, r => by
    rw [h.intInv] at r
    obtain ⟨t, rfl⟩ := r
    simp only [nkOf]
    exact .int i t
  | .tuple ds, v, u, n, h, r => by
    obtain ⟨a, xs, rfl, sq, q⟩ := h.tupInv
    simp only [nkOk] at n
    obtain ⟨its, rv, ⟨o, ho, hc, m, hd⟩, _⟩ := I.tuple (sqT_K (same_seqT gh sq))
    obtain rfl : u = Value.ref a := r
    simp only [nkOf]
    exact .tup ho hc hd (by simpa using nested_all I gh ds xs its n q rv)
  | .none, _, _, h, _, _ => by simp [nkOk] at h
  | .bool _, _, _, h, _, _ => by simp [nkOk] at h
  | .str _, _, _, h, _, _ => by simp [nkOk] at h
  | .list _, _, _, h, _, _ => by simp [nkOk] at h
  | .dict _, _, _, h, _, _ => by simp [nkOk] at h
theorem nested_all (I : Inv X pins σ H s) (gh : Same G H) : ∀ (ds : List D) (vs : List V) (us : List Value), nksOk ds = true → DqAll G vs ds → Vals vs us → NestedAll s.heap (nksOf ds) us
  | [], vs, us, _, q, r => by
    have := q.inv0
    subst this
    cases r
    simp only [nksOf]
    exact .nil
  | d :: ds, vs, us, n, q, r => by
    obtain ⟨v, vs', rfl, h1, h2⟩ := q.inv
    simp only [nksOk, Bool.and_eq_true] at n
    cases r with
    | cons r1 r2 =>
      simp only [nksOf]
      exact .cons (nested_is I gh d v _ n.1 h1 r1) (nested_all I gh ds vs' _ n.2 h2 r2)
end
theorem key_is (I : Inv X pins σ H s) (gh : Same G H) (ok : keyOk k = true) (h : Dq G (.ref a) k) : (nestedKind X.prog X.w).is s.heap (nkOf k) a := by
  simp only [keyOk, Bool.and_eq_true, decide_eq_true_eq] at ok
  exact ⟨nested_is I gh k (.ref a) (.ref a) ok.1 h rfl, ok.2⟩
theorem dic_xs (P : Program) (w : World) : ∀ {kvs : List (D × Int)} {es : List DictEntry}, Paired (DicE G) kvs es → ∃ xs, es = xs.map (entryOfKey (nestedKind P w)) ∧ Paired (PK G) kvs xs
  | _, _, .nil => ⟨[], rfl, .nil⟩
  | _, _, .cons (l₂ := es) (b := e) ⟨a, t, h1, h2, h3, h4, h5, h6⟩ r => by
    obtain ⟨xs, e1, e2⟩ := dic_xs P w r
    refine ⟨(_, a, e.val) :: xs, ?_, .cons ⟨rfl, h2, h3, h4, t, h6⟩ e2⟩
    rw [List.map_cons, ← e1]
    congr 1
    show e = ⟨_, _, _⟩
    have := h5 w
    cases e
    simp only at h1 this ⊢
    rw [h1, this]
    rfl
theorem pk_keys : ∀ {kvs : List (D × Int)} {xs : List (NestedKey × Addr × Value)}, Paired (PK G) kvs xs → xs.map (·.1) = kvs.map fun e => nkOf e.1
  | _, _, .nil => rfl
  | _, _, .cons h r => by rw [List.map_cons, List.map_cons, h.1, pk_keys r]
theorem dic_of (I : Inv X pins σ H s) (gh : Same G H) {o : Obj} (h : H p = some (rawO p o)) (d : DicO G p o kvs) : s.heap.get? p = some o ∧ ∃ xs, s.heap.DictOfH (nestedKind X.prog X.w) p xs ∧ Paired (PK G) kvs xs := by
  have e : s.heap.get? p = some o := (show ObjOk X.prog X.w H s.heap p (rawO p o) from I.hok p _ h).1
  obtain ⟨es, ep, h1, h2⟩ := d.dt
  obtain ⟨xs, e1, e2⟩ := dic_xs X.prog X.w h2.pr
  refine ⟨e, xs, ⟨o, es, ep, e, d.ex, h1, e1, ?_, by rw [pk_keys e2]; exact h2.nd⟩, e2⟩
  have all : ∀ {l : List (D × Int)} {m : List (NestedKey × Addr × Value)}, Paired (PK G) l m → ∀ x ∈ m, (nestedKind X.prog X.w).is s.heap x.1 x.2.1 := by
    intro l m q
    induction q with
    | nil => intro x hx; exact nomatch hx
    | @cons p q ps qs hq t ih =>
      intro x hx
      rcases List.mem_cons.mp hx with e | hx
      · subst e
        rw [hq.1]
        exact key_is I gh (by simp only [keyOk, Bool.and_eq_true, decide_eq_true_eq]; exact ⟨hq.2.2.1, hq.2.2.2.1⟩) hq.2.1
      · exact ih x hx
  exact all e2
theorem look_none (k : D) : ∀ {kvs : List (D × Int)} {xs : List (NestedKey × Addr × Value)}, Paired (PK G) kvs xs → lookD kvs k = none → atKey xs (nkOf k) = none
  | _, _, .nil, _ => rfl
  | _, _, .cons (l₁ := l) (l₂ := m) (a := x) (b := y) h r, e => by
    unfold lookD at e
    unfold atKey
    rw [List.find?_cons] at e ⊢
    by_cases z : nkOf x.1 = nkOf k
    · simp [z] at e
    · have z' : ¬ y.1 = nkOf k := by rw [h.1]; exact z
      simp only [z, decide_false] at e
      simp only [z', decide_false]
      exact look_none k r e
theorem look_some (k : D) : ∀ {kvs : List (D × Int)} {xs : List (NestedKey × Addr × Value)} {i : Int}, Paired (PK G) kvs xs → lookD kvs k = some i → ∃ q t, atKey xs (nkOf k) = some q ∧ q.2 = .int i t
  | _, _, i, .nil, e => by cases e
  | _, _, i, .cons (l₁ := l) (l₂ := m) (a := x) (b := y) h r, e => by
    unfold lookD at e
    unfold atKey
    rw [List.find?_cons] at e ⊢
    by_cases z : nkOf x.1 = nkOf k
    · have z' : y.1 = nkOf k := by rw [h.1]; exact z
      simp only [z, decide_true, Option.map_some, Option.some.injEq] at e
      obtain ⟨t, ht⟩ := h.2.2.2.2
      refine ⟨y.2, t, by simp [z'], by rw [ht, e]⟩
    · have z' : ¬ y.1 = nkOf k := by rw [h.1]; exact z
      simp only [z, decide_false] at e
      simp only [z', decide_false]
      exact look_some k r e
theorem pk_map (v : Int) (t : Tok) : ∀ {kvs : List (D × Int)} {xs : List (NestedKey × Addr × Value)}, Paired (PK G) kvs xs → Paired (PK G) (kvs.map fun e => if nkOf e.1 = nkOf k then (e.1, v) else e) (xs.map (putAt (nkOf k) (.int v t)))
  | _, _, .nil => .nil
  | _, _, .cons (a := x) (b := y) h r => by
    rw [List.map_cons, List.map_cons]
    refine .cons ?_ (pk_map v t r)
    unfold putAt
    by_cases z : nkOf x.1 = nkOf k
    · rw [if_pos z, if_pos (h.1.trans z)]
      exact ⟨h.1, h.2.1, h.2.2.1, h.2.2.2.1, t, rfl⟩
    · rw [if_neg z, if_neg (by rw [h.1]; exact z)]
      exact h
theorem pk_put (v : Int) (t : Tok) (r : Paired (PK G) kvs xs) (ok : keyOk k = true) (h : Dq G (.ref a) k) : Paired (PK G) (putD kvs k v) (storedH xs (nkOf k) a (.int v t)) := by
  simp only [keyOk, Bool.and_eq_true, decide_eq_true_eq] at ok
  unfold putD storedH
  cases e : lookD kvs k with
  | none =>
    rw [look_none k r e]
    simp only [Option.isSome_none, Bool.false_eq_true, if_false]
    exact Paired.snoc r ⟨rfl, h, ok.1, ok.2, t, rfl⟩
  | some i =>
    obtain ⟨q, u, e1, e2⟩ := look_some k r e
    rw [e1]
    simp only [Option.isSome_some, if_true]
    exact pk_map v t r
theorem pk_dic (P : Program) (w : World) : ∀ {kvs : List (D × Int)} {xs : List (NestedKey × Addr × Value)}, Paired (PK G) kvs xs → Paired (DicE G) kvs (xs.map (entryOfKey (nestedKind P w)))
  | _, _, .nil => .nil
  | _, _, .cons (b := y) h r => by
    rw [List.map_cons]
    obtain ⟨t, ht⟩ := h.2.2.2.2
    refine .cons ⟨y.2.1, t, rfl, h.2.1, h.2.2.1, h.2.2.2.1, fun w' => ?_, ht⟩ (pk_dic P w r)
    show NestedKey.hash w y.1 = _
    rw [h.1]
    exact hash_any w w' _ h.2.2.1
theorem putD_len (kvs : List (D × Int)) (k : D) (v : Int) : (putD kvs k v).length ≤ kvs.length + 1 := by
  unfold putD
  split
  · rw [List.length_map]; omega
  · rw [List.length_append]; simp
/-- d[k] = i -/
theorem dic_put {A : Around} {E : Value → Shared → Prop} {Q : Unit → Shared → Prop} (hu : A.units + 20 < cLine) (I : Inv X pins σ H s) (gh : Same G H) {o : Obj} (h : H p = some (rawO p o)) (d : DicO G p o kvs) (gp : G p = none) (ok : keyOk k = true) (hk : Dq G (.ref a) k) {i : Int} {t : Tok} (hl : kvs.length < 100000)
    (q : ∀ o' s', DicO G p o' (putD kvs k i) → Inv X pins σ (upd H p (rawO p o')) s' → Q () s') : wpAny (model X.prog X.w) A (setItem (.ref p) (.ref a) (.int i t)) Q E s := by
  obtain ⟨e, xs, dd, pk⟩ := dic_of I gh h d
  have lx : kvs.length = xs.length := Paired.length pk
  refine wpAny_setItem_heap (knd := nestedKind X.prog X.w) (hsz := by rw [sizeLine_eq]; omega) (show A.in1.units + 8 < cLine by show A.units + 1 + 8 < cLine; omega) (key_is I gh ok hk) dd fun h' dd' hs => ?_
  obtain ⟨o', es', ep', hq, h2, h3, h4, h5, h6⟩ := dd'
  have pk' := pk_put i t pk ok hk
  refine q o' _ ⟨d.sy, h2, es', ep', h3, by rw [h4]; exact pk_dic X.prog X.w pk', by rw [← pk_keys pk']; exact h6, by have := putD_len kvs k i; omega⟩ (d_write I (by rw [h]; exact True.intro) hs ⟨o', hq⟩ ⟨hq, ⟨o', hq⟩, fun h1 h2 z k => k _ z⟩)
/-- d[k] -/
theorem dic_get {A : Around} {E : Value → Shared → Prop} {Q : Value → Shared → Prop} (hu : A.units + 20 < cLine) (I : Inv X pins σ H s) (gh : Same G H) {o : Obj} (h : H p = some (rawO p o)) (d : DicO G p o kvs) (ok : keyOk k = true) (hk : Dq G (.ref a) k) {i : Int} (l : lookD kvs k = some i)
    (q : ∀ t s', Inv X pins σ H s' → Q (.int i t) s') : wpAny (model X.prog X.w) A (getItem (.ref p) (.ref a)) Q E s := by
  obtain ⟨e, xs, dd, pk⟩ := dic_of I gh h d
  obtain ⟨y, t, e1, e2⟩ := look_some k pk l
  refine wpAny_getItem_heap (knd := nestedKind X.prog X.w) (show A.in1.units + 8 < cLine by show A.units + 1 + 8 < cLine; omega) (key_is I gh ok hk) dd e1 ?_
  rw [e2]
  exact q t _ (I.tok _)
/-- d.get(k, j) -/
theorem dic_getD {A : Around} {E : Value → Shared → Prop} {Q : Value → Shared → Prop} (hu : A.units + 20 < cLine) (I : Inv X pins σ H s) (gh : Same G H) {o : Obj} (h : H p = some (rawO p o)) (d : DicO G p o kvs) (ok : keyOk k = true) (hk : Dq G (.ref a) k) {j : Int} {tj : Tok}
    (q : ∀ t s', Inv X pins σ H s' → Q (.int ((lookD kvs k).getD j) t) s') : wpAny (model X.prog X.w) A (call (.builtin "dict.get") [.ref p, .ref a, .int j tj]) Q E s := by
  obtain ⟨e, xs, dd, pk⟩ := dic_of I gh h d
  refine call_meetsIn PySem.F.slot_dict_get dd.typeIs PySem.F.entry_dict_get (PySem.F.args_dict_get_3 _ _ _) (meetsH_dict_get_default (nestedKind X.prog X.w) p a d.sy (.int j tj)) ⟨show A.in1.units + 8 < cLine by show A.units + 1 + 8 < cLine; omega, nkOf k, xs, key_is I gh ok hk, dd, ?_⟩
  cases l : lookD kvs k with
  | none =>
    rw [look_none k pk l]
    have := q tj _ (I.tok (s.toks + (nestedKind X.prog X.w).draws (nkOf k)))
    rw [l] at this
    exact this
  | some i =>
    obtain ⟨y, t, e1, e2⟩ := look_some k pk l
    rw [e1]
    have := q t _ (I.tok (s.toks + (nestedKind X.prog X.w).draws (nkOf k)))
    rw [l] at this
    simp only [Option.map_some, Option.getD_some, e2]
    exact this
theorem dic_ty (I : Inv X pins σ H s) (gh : Same G H) {o : Obj} (h : H p = some (rawO p o)) (d : DicO G p o kvs) : s.TypeIs (.ref p) "dict" ∧ ∀ b, Value.ref p = .ref b → ∃ ob, s.heap.get? b = some ob ∧ ob.dict = none := by
  obtain ⟨e, xs, dd, pk⟩ := dic_of I gh h d
  exact ⟨dd.typeIs, fun b q => by cases q; exact ⟨o, e, d.ex.2.1⟩⟩
end
end VL
namespace VL
open PySem L2
/-! ### .. as a thing of a def's own: {}, d[k] = e, d[k], d.get(k, j), for k in d -/
def asDic : List D → Option (List (D × Int))
  | [] => some []
  | .tuple [k, .int i] :: r => (asDic r).map ((k, i) :: ·)
  | _ => none
theorem asDic_map : ∀ kvs : List (D × Int), asDic (kvs.map fun e => .tuple [e.1, .int e.2]) = some kvs
  | [] => rfl
  | (k, i) :: r => by rw [List.map_cons, asDic, asDic_map r]; rfl
def tDNewN : TE := fun _ H Q => ∀ p, H p = none → (p == sysModules) = false → Q (.ref p) (upd H p (rawO p { cls := .type "dict", data := .dict #[] }))
def tNGet (td ty : TE) : TE := fun σ H Q => td σ H fun x H1 => ty σ H1 fun y H2 => ∃ G p o kvs a k i, x = .ref p ∧ y = .ref a ∧ Same G H2 ∧ H2 p = some (rawO p o) ∧ DicO G p o kvs ∧ keyOk k = true ∧ Dq G (.ref a) k ∧ lookD kvs k = some i ∧ Q (.int i) H2
def tNGetD (td ty : TE) (j : Int) : TE := fun σ H Q => td σ H fun x H1 => ∃ G1 p o1 kvs, x = .ref p ∧ Same G1 H1 ∧ H1 p = some (rawO p o1) ∧ DicO G1 p o1 kvs ∧ ty σ H1 fun y H2 => ∃ G a o k, y = .ref a ∧ Same G H2 ∧ H2 p = some (rawO p o) ∧ DicO G p o kvs ∧ keyOk k = true ∧ Dq G (.ref a) k ∧ Q (.int ((lookD kvs k).getD j)) H2
def tNPut (td ty tv : TE) : TS := fun D σ H => tv σ H fun v H1 => td σ H1 fun x H2 => ty σ H2 fun y H3 => ∃ G p o kvs a k i, v = .int i ∧ x = .ref p ∧ y = .ref a ∧ Same G H3 ∧ H3 p = some (rawO p o) ∧ DicO G p o kvs ∧ G p = none ∧ kvs.length < 100000 ∧ keyOk k = true ∧ Dq G (.ref a) k ∧
  ∀ o', DicO G p o' (putD kvs k i) → D.nx σ (upd H3 p (rawO p o'))
section
variable {X : Cx} {o i e value f : Expr} {pos pos' tpos apos cpos : Pos} {td ty tv : TE}
theorem rawO_ok {P : Program} {w : World} {H : Hp} {h : Heap} {p : Addr} {ob : Obj} (e : h.get? p = some ob) : ObjOk P w H h p (rawO p ob) := ⟨e, ⟨ob, e⟩, fun h1 h2 z k => k _ z⟩
theorem pe_dnewN : PE X (.Dict [] [] pos) tDNewN := ⟨fun pins s σ H Q I h =>
  wpAny_Dict_empty ⟨.ref s.heap.objs.size, _, I.laid (a := s.heap.objs.size) (o := rawO s.heap.objs.size { cls := .type "dict", data := .dict #[] }) (t' := s.toks) (fun _ _ q => Heap.get?_push_of_some _ q) (Nat.le_refl _) (rawO_ok (Heap.get?_push_size _ rfl)), rfl, h _ (I.hok.fresh (Nat.le_refl _)) (beq_eq_false_iff_ne.mpr (Ne.symm (Nat.ne_of_lt I.big)))⟩⟩
theorem pe_nget (hu : X.A.units + 20 < cLine) (ho : PE X o td) (hi : PE X i ty) (hs : NoSl i) : PE X (.Subscript o i pos) (tNGet td ty) := by
  refine ⟨fun pins s σ H Q I h => ?_⟩
  refine subD_of PySem.F.slot_dict_getitem.lookup hs (thn (ho.run pins s σ H _ I h) fun u s1 ⟨x, H1, I1, rx, q1⟩ => thn (hi.run pins s1 σ H1 _ I1 q1) fun iv s2 ⟨y, H2, I2, ry, G, p, ob, kvs, a, k, j, ex, ey, gh, hp, dd, ok, hk, l, q2⟩ => ?_)
  subst ex ey
  obtain rfl : u = Value.ref p := rx
  obtain rfl : iv = Value.ref a := ry
  exact ⟨(dic_ty I2 gh hp dd).1, dic_get hu I2 gh hp dd ok hk l fun t s3 I3 => ⟨.int j, H2, I3, ⟨t, rfl⟩, q2⟩⟩
theorem pe_ngetD {j : Int} {kk : Nat} {pj : Pos} (hu : X.A.units + 20 < cLine) (ho : PE X o td) (he : PE X e ty) (m : M2 X o "get" apos e (.Constant (.int j) kk pj) cpos) : PE X (.Call (.Attribute o "get" apos) [e, .Constant (.int j) kk pj] [] cpos) (tNGetD td ty j) := by
  refine ⟨fun pins s σ H Q I h => ?_⟩
  refine wpAny_Call_method m.base m.few m.line PySem.F.plainAttrs_dict PySem.F.slot_dict_get PySem.F.type_dict_get (thn (ho.run pins s σ H _ I h) fun u s1 ⟨x, H1, I1, rx, G1, p, o1, kvs, ex, gh1, hp1, dd1, q1⟩ => ?_)
  subst ex
  obtain rfl : u = Value.ref p := rx
  obtain ⟨t1, t2⟩ := dic_ty I1 gh1 hp1 dd1
  refine ⟨t1, t2, ?_⟩
  rw [m.trees]
  refine Calls.callWith_builtin rfl (Calls.evalArgs_plain (Calls.spliced_cons (thn (he.run pins s1 σ H1 _ I1 q1) fun iv s2 ⟨y, H2, I2, ry, G, a, ob, k, ey, gh, hp, dd, ok, hk, q2⟩ =>
    Calls.spliced_cons (thn ((pe_int (X := X) (i := j)).run pins s2 σ H2 (fun v H' => v = .int j ∧ H' = H2) I2 ⟨rfl, rfl⟩) fun fv s3 ⟨z, H3, I3, rz, ez, eH⟩ => Calls.spliced_nil ?_))))
  subst ey ez eH
  obtain rfl : iv = Value.ref a := ry
  obtain ⟨tj, rfl⟩ := rz
  exact dic_getD hu I3 gh hp dd ok hk fun t s4 I4 => ⟨.int _, H3, I4, ⟨t, rfl⟩, q2⟩
theorem ps_nput (hu : X.A.units + 20 < cLine) (ho : PE X o td) (hi : PE X i ty) (hv : PE X value tv) (hs : swapsWith value (some (.Subscript o i pos')) pos.line X.env = pure false) :
    PS X (.Assign [.Subscript o i pos'] value pos) (tNPut td ty tv) := by
  refine ⟨fun pins s σ H D I h => ?_⟩
  refine wpAny_Assign_Subscript (thn (hv.run pins s σ H _ I h) fun r s1 ⟨v, H1, I1, rv, q1⟩ => thn (ho.run pins s1 σ H1 _ I1 q1) fun u s2 ⟨x, H2, I2, rx, q2⟩ => thn (hi.run pins s2 σ H2 _ I2 q2) fun iv s3 ⟨y, H3, I3, ry, G, p, ob, kvs, a, k, j, ev, ex, ey, gh, hp, dd, gp, hl, ok, hk, q3⟩ => ?_) hs
  subst ev ex ey
  obtain rfl : u = Value.ref p := rx
  obtain rfl : iv = Value.ref a := ry
  obtain ⟨t, rfl⟩ := rv
  exact dic_put hu I3 gh hp dd gp ok hk hl fun o' s4 d' I4 => ⟨σ, _, I4, q3 o' d'⟩
end
/-! ### the keys, one by one -/
def Itn (d : Addr) (o : Obj) (es : Array DictEntry) : It :=
  ⟨fun i H => H d = some (rawO d o) ∧ i < es.size, fun i H x H' => H' = H ∧ ∃ (en : DictEntry) (q : Addr), es[i]? = some en ∧ en.key = .ref q ∧ x = .ref q, fun i H => H d = some (rawO d o) ∧ es.size ≤ i⟩
section
variable {P : Program} {w : World} {K : PySem.W.Frag} {tg : Expr} {d : Addr} {o : Obj} {es : Array DictEntry} {ep : Nat}
theorem turn_keysN (it : Addr) (hod : o.data = .dict es ep) (hk : ∀ (i : Nat) en, es[i]? = some en → ∃ q, en.key = .ref q) : Turn P w K tg (Itn d o es) [it] it (fun i h => h.IsKeyIter it d i es.size ep) where
  mem := by simp
  obj := fun i h st b hb => by
    have e : b = it := by simpa using hb
    subst e
    obtain ⟨oi, e, c, dd⟩ := st
    exact ⟨oi, e, fun v z => by rw [dd] at z; cases z⟩
  keep := fun i h h' st k => st.at fun oi e => k it (by simp) oi e
  item := by
    intro X hP hw hK hc i pins s σ H E I hf st hg
    subst hP hw hK
    obtain ⟨hd, hi⟩ := hg
    obtain ⟨f0, f1, f2, f3, f4, f5⟩ := hf it (by simp)
    have hgd : s.heap.get? d = some o := (show ObjOk X.prog X.w H s.heap d (rawO d o) from I.hok d _ hd).1
    have hen : es[i]? = some es[i] := Array.getElem?_eq_getElem hi
    obtain ⟨q, hkey⟩ := hk i _ hen
    refine next_key_item st hgd hod rfl hen fun h' st' sb => ?_
    have I1 : Inv X pins σ H { s with heap := h' } := I.turned (t' := s.toks) (fun b ob hb e => (sb.2 b hb).trans e) f0 f1 f3 f4 f5
    obtain ⟨oi, e, c, dd⟩ := id st'
    exact ⟨es[i].key, rfl, go_of (s := { s with heap := h' }) e c dd (by decide) ⟨.ref q, H, I1, hkey, ⟨rfl, _, q, hen, hkey, rfl⟩, st', fun b hb => (hf b hb).1⟩⟩
  done := by
    intro X hP hw hK hc i pins s σ H E I hf st hg
    subst hP hw hK
    obtain ⟨hd, hi⟩ := hg
    obtain ⟨f0, f1, f2, f3, f4, f5⟩ := hf it (by simp)
    have hgd : s.heap.get? d = some o := (show ObjOk X.prog X.w H s.heap d (rawO d o) from I.hok d _ hd).1
    exact next_key_end (I.ok.hd hc) st hgd hod rfl hi fun h' eb => ⟨rfl, I.turned (t' := s.toks) (fun b ob hb e => eb b ob hb e) f0 f1 f3 f4 f5⟩
  self := fun A i s Q E st h => by
    refine wpAny_pyIter_slot st.typeIs F.slot_dict_keyiterator_iter (wpAny_call_entry F.slot_dict_keyiterator_iter st.typeIs F.entry_dict_keyiterator_iter ?_ (F.args_dict_keyiterator_iter_1 _))
    show wpAny _ _ (ret (.ref it)) _ _ s
    exact wpAny_pure ⟨_, rfl, "dict_keyiterator", _, st.typeIs, F.slot_dict_keyiterator_next.lookup, h⟩
end
def iKeysN (td : TE) : TI := fun σ H R => td σ H fun x H1 => ∃ d o es ep, x = .ref d ∧ H1 d = some (rawO d o) ∧ (d == sysModules) = false ∧ o.ExactDict ∧ o.data = .dict es ep ∧ (∀ (i : Nat) en, es[i]? = some en → ∃ q, en.key = .ref q) ∧ R (Itn d o es) H1
theorem pi_keysN {X : Cx} {tg e : Expr} {td : TE} (he : PE X e td) : PI X tg e (iKeysN td) := by
  refine ⟨fun pins s σ H R I h => ?_⟩
  refine thn (he.run pins s σ H _ I h) fun u s1 ⟨x, H1, I1, rx, d, o, es, ep, ex, hd, hs, hx, hdt, hk, q⟩ => ?_
  subst ex
  obtain rfl : u = Value.ref d := rx
  have hgd : s1.heap.get? d = some o := (show ObjOk X.prog X.w H1 s1.heap d (rawO d o) from I1.hok d _ hd).1
  exact iter_keys hs hgd hx hdt (pi_one (tk := s1.toks) I1 _ (turn_keysN _ hdt hk) ⟨_, Heap.get?_push_size _ rfl, rfl, rfl⟩ q)
theorem dicE_get {G : Hp} : ∀ {kvs : List (D × Int)} {es : List DictEntry}, Paired (DicE G) kvs es → ∀ (i : Nat) en, es[i]? = some en → ∃ e, kvs[i]? = some e ∧ DicE G e en
  | _, _, .nil, i, en, h => by simp at h
  | _, _, .cons h r, 0, en, e => by simp at e; subst e; exact ⟨_, rfl, h⟩
  | _, _, .cons h r, i + 1, en, e => by
    obtain ⟨x, h1, h2⟩ := dicE_get r i en (by simpa using e)
    exact ⟨x, by simpa using h1, h2⟩
theorem walksN {G : Hp} {d : Addr} {o : Obj} {es : Array DictEntry} {ep : Nat} {kvs : List (D × Int)} (g : G d = some (rawO d o)) (r : DicR G kvs es.toList) : WalksD (Itn d o es) G (kvs.map (·.1)) := by
  have ln : es.size = kvs.length := by rw [← Array.length_toList]; exact (Paired.length r.pr).symm
  unfold WalksD
  rw [List.length_map, ← ln]
  refine ⟨fun i H hi gh => ⟨gh _ _ g, hi⟩, fun H gh => ⟨gh _ _ g, Nat.le_refl _⟩, fun i H x H' hi gh y Gc h1 h2 => ?_⟩
  obtain ⟨rfl, en, q, e1, e2, rfl⟩ := y
  rw [← Array.getElem?_toList] at e1
  obtain ⟨e, h3, a, t, h4, h5, _⟩ := dicE_get r.pr i en e1
  rw [e2] at h4
  cases h4
  exact ⟨e.1, Gc, by rw [List.getElem?_map, h3]; rfl, Step.refl h2, h5.mono h1⟩
/-! ### readings -/
@[simp] def fDic (a : SV) (k : List (D × Int) → R) : R := match a with
  | .ob 103 fs => (match asDic fs with
    | some kvs => k kvs
    | none => .stuck)
  | _ => .stuck
@[simp] def isTp : D → Bool
  | .tuple _ => true
  | _ => false
@[simp] def keyT (k : D) : Bool := keyOk k && isTp k
@[simp] def vDIx (f g : FE) : FE := fun env => (f env).v fun a => fDic a fun kvs => (g env).d fun k => if keyT k = true then (match lookD kvs k with
  | some i => ri i
  | none => .stuck) else .stuck
@[simp] def vDGet (f g : FE) (j : Int) : FE := fun env => (f env).v fun a => fDic a fun kvs => (g env).d fun k => if keyT k = true then ri ((lookD kvs k).getD j) else .stuck
@[simp] def itDic (f : FE) : FI := fun env => match f env with
  | .val (.ob 103 fs) => (match asDic fs with
    | some kvs => .val (kvs.map (·.1))
    | none => .stuck)
  | _ => .stuck
@[simp] def sDPut (i j : Nat) (f : FE) : FS := fun env => match env[i]?, env[j]? with
  | some (some (.rg (.dic kvs))), some (some (.sh k)) => (f env).s fun v => match v with
    | .sh (.int x) => if keyT k = true ∧ kvs.length < 90000 then .nx (env.set i (some (.rg (.dic (putD kvs k x))))) else .stuck
    | _ => .stuck
  | _, _ => .stuck
@[simp] def sParD (i j : Nat) (f : FE) : FS := fun env => (f env).s fun v => if noRg (env.set j none) = true then (match v with
  | .sh d => .nx ((env.set i (some (.sh d))).set j (some (.rg (.dic []))))
  | _ => .stuck) else .stuck
/-- the thing that a name owns is never changed from here on -/
def sFrzR (i : Nat) (s : FS) : FS := fun env => match env[i]? with
  | some (some (.rg r)) => (match r.fzv with
    | some w => s (env.set i (some w))
    | none => .stuck)
  | _ => .stuck
section
variable {X : Cx} {T : Ct} {EX : XK} {B : Hp × Hp} {e a b c o i tg : Expr} {es : List Expr} {pos p p2 apos cpos px py pos' : Pos} {f g h : FE} {fs gs : List FE} {G H G1 H1 : Hp} {Q : VK} {σ : L2.St} {env : VEnv} {D : Ends} {st : Stmt} {sts : List Stmt} {s : FS}
theorem ob103 {v : V} {fs : List VL.D} (h : ObRp T G v 103 fs) : DicF G v fs := by
  unfold ObRp at h
  rwa [if_neg (by omega), if_neg (by omega), if_neg (by omega), if_pos rfl] at h
theorem fDic_out {a : SV} {v : V} {k : List (VL.D × Int) → R} (rp : VRp T G v a) (h : Out T EX (fDic a k) G H Q) : ∃ p ob kvs, v = .ref p ∧ G p = some (rawO p ob) ∧ DicO G p ob kvs ∧ Out T EX (k kvs) G H Q := by
  unfold fDic at h
  split at h
  · rename_i fs
    obtain ⟨p, ob, kvs, rfl, h1, h2, rfl⟩ := ob103 rp
    rw [asDic_map] at h
    exact ⟨p, ob, kvs, rfl, h1, h2, h⟩
  · exact h.elim
theorem key_ref {k : VL.D} {v : V} (ok : keyT k = true) (h : Dq G v k) : keyOk k = true ∧ ∃ a, v = .ref a := by
  simp only [keyT, Bool.and_eq_true] at ok
  refine ⟨ok.1, ?_⟩
  cases k with
  | tuple ds => obtain ⟨a, xs, rfl, _⟩ := h.tupInv; exact ⟨a, rfl⟩
  | _ => simp at ok
theorem noSl_name {x : Str} : NoSl (.Name x px) := fun ov iv => rfl
theorem ve_dix (C : Cv X T EX B) (ho : VE X T EX B o f) (hi : VE X T EX B i g) (hs : NoSl i) : VE X T EX B (.Subscript o i pos) (vDIx f g) := by
  refine pe_weak (pe_nget (by have := C.un; omega) ho hi hs) fun σ H Q q => ?_
  obtain ⟨G, env, S, o⟩ := q
  refine rdV_mono (seqV S o) fun v H1 ⟨w, G1, s, rp, S1, o1⟩ => ?_
  by_cases hw : ∃ kvs fs, w = .ob 103 fs ∧ asDic fs = some kvs
  rotate_left
  · exfalso
    unfold fDic at o1
    split at o1
    · rename_i fs
      split at o1
      · rename_i kvs ek; exact hw ⟨kvs, fs, rfl, ek⟩
      · exact o1
    · exact o1
  obtain ⟨kvs, fs, rfl, ek⟩ := hw
  simp only [fDic, ek] at o1
  obtain ⟨p, ob, kvs', rfl, h1, h2, e3⟩ := ob103 rp
  rw [e3, asDic_map] at ek
  cases ek
  refine rdV_mono (seqD S1 o1) fun y H2 ⟨k, G2, s2, dq, S2, o2⟩ => ?_
  split at o2
  rotate_left
  · exact o2.elim
  rename_i ok
  split at o2
  rotate_left
  · exact o2.elim
  rename_i j lk
  obtain ⟨ok1, a, rfl⟩ := key_ref ok dq
  exact ⟨G2, p, ob, kvs, a, k, j, rfl, rfl, S2.gh, S2.gh _ _ (s2.gg _ _ h1), h2.mono s2.gg, ok1, dq, lk, o2.ri S2.gh⟩
theorem ve_dget {j : Int} {kk : Nat} {pj : Pos} (C : Cv X T EX B) (ho : VE X T EX B o f) (hi : VE X T EX B e g) (m : M2 X o "get" apos e (.Constant (.int j) kk pj) cpos := by exact ⟨rfl, rfl, rfl, rfl⟩) : VE X T EX B (.Call (.Attribute o "get" apos) [e, .Constant (.int j) kk pj] [] cpos) (vDGet f g j) := by
  refine pe_weak (pe_ngetD (by have := C.un; omega) ho hi m) fun σ H Q q => ?_
  obtain ⟨G, env, S, o⟩ := q
  refine rdV_mono (seqV S o) fun v H1 ⟨w, G1, s, rp, S1, o1⟩ => ?_
  by_cases hw : ∃ kvs fs, w = .ob 103 fs ∧ asDic fs = some kvs
  rotate_left
  · exfalso
    unfold fDic at o1
    split at o1
    · rename_i fs
      split at o1
      · rename_i kvs ek; exact hw ⟨kvs, fs, rfl, ek⟩
      · exact o1
    · exact o1
  obtain ⟨kvs, fs, rfl, ek⟩ := hw
  simp only [fDic, ek] at o1
  obtain ⟨p, ob, kvs', rfl, h1, h2, e3⟩ := ob103 rp
  rw [e3, asDic_map] at ek
  cases ek
  refine ⟨G1, p, ob, kvs, rfl, S1.gh, S1.gh _ _ h1, h2, rdV_mono (seqD S1 o1) fun y H2 ⟨k, G2, s2, dq, S2, o2⟩ => ?_⟩
  split at o2
  rotate_left
  · exact o2.elim
  rename_i ok
  obtain ⟨ok1, a, rfl⟩ := key_ref ok dq
  exact ⟨G2, a, ob, k, rfl, S2.gh, S2.gh _ _ (s2.gg _ _ h1), h2.mono s2.gg, ok1, dq, o2.ri S2.gh⟩
theorem vi_dic (ha : VE X T EX B a f) : VI X T EX B tg a (itDic f) := pi_weak (pi_keysN ha) fun σ H R q => by
  obtain ⟨G, env, S, o⟩ := q
  unfold itDic at o
  split at o
  rotate_left
  · exact o.elim
  rename_i fs ef
  split at o
  rotate_left
  · exact o.elim
  rename_i kvs ek
  refine ⟨G, env, S, ?_⟩
  rw [ef]
  intro v G' H' s rp
  obtain ⟨p, ob, kvs', rfl, h1, h2, e3⟩ := ob103 rp
  rw [e3, asDic_map] at ek
  cases ek
  obtain ⟨es, ep, h3, h4⟩ := h2.dt
  refine ⟨p, ob, es, ep, rfl, s.gh _ _ h1, h2.sy, h2.ex, h3, fun i en e => ?_, o _ G' H' s (walksN (ep := ep) h1 h4)⟩
  rw [← Array.getElem?_toList] at e
  obtain ⟨_, _, a, t, h5, _⟩ := dicE_get h4.pr i en e
  exact ⟨a, h5⟩
theorem vs_dput (i j : Nat) {x y : Str} (C : Cv X T EX B) (he : VE X T EX B e f) (hN : X.N[i]? = some x := by rfl) (hv : Vis X.env.scope x := by first | exact Or.inl rfl | exact Or.inr (Or.inl rfl) | exact Or.inr (Or.inr rfl)) (hd : (x == ("__debug__" : Str)) = false := by decide) (hcd : (x == ("__classdict__" : Str)) = false := by decide)
    (hNj : X.N[j]? = some y := by rfl) (hvj : Vis X.env.scope y := by first | exact Or.inl rfl | exact Or.inr (Or.inl rfl) | exact Or.inr (Or.inr rfl)) (hdj : (y == ("__debug__" : Str)) = false := by decide) (hcdj : (y == ("__classdict__" : Str)) = false := by decide)
    (hs : swapsWith e (some (.Subscript (.Name x px) (.Name y py) pos')) pos.line X.env = pure false := by rfl) :
    VS X T EX B (.Assign [.Subscript (.Name x px) (.Name y py) pos'] e pos) (sDPut i j f) := by
  refine ps_weak (ps_nput (by have := C.un; omega) (pe_var hN hv hd hcd) (pe_var hNj hvj hdj hcdj) he hs) fun D σ H q => ?_
  obtain ⟨G, env, S, o⟩ := q
  unfold sDPut at o
  split at o
  rotate_left
  · exact o.elim
  rename_i kvs k ei ej
  refine seqS S o fun v ev0 o0 => Out.fz fun w G' H' s rp => ?_
  clear ev0
  have S1 := S.step s
  clear o
  have o := o0.step s.gg
  clear o0
  split at o
  rotate_left
  · exact o.elim
  rename_i n
  split at o
  rotate_left
  · exact o.elim
  rename_i ok
  obtain ⟨u, v, F, hv', ra, ap⟩ := S1.rg i _ ei
  obtain ⟨vk, hk1, hk2⟩ := S1.sh j k ej
  have rp0 := ra.rp
  cases rp0 with
  | dic h d =>
    rename_i p ob
    obtain ⟨ok1, a, rfl⟩ := key_ref ok.1 hk2
    have rw' : w = .int n := Dq.intInv rp
    refine ⟨.ref p, hv', .ref a, hk1, G', p, ob, kvs, a, k, n, rw', rfl, rfl, S1.gh, h, d, (ra.nw p List.mem_cons_self).1, by omega, ok1, hk2, fun o' d' => ?_⟩
    exact o G' _ _ (Same.refl _) (S1.wrR (F' := [p]) ei hv' ra ap (fun b nb => upd_ne fun z => nb (z ▸ List.mem_cons_self)) (fun b m => by rw [List.mem_singleton.mp m]; exact ⟨_, upd_same⟩) (.dic upd_same d') (List.Sublist.refl _))
theorem vs_parD (i j : Nat) {x y : Str} {pt : Pos} {kt k' pt2} (C : Cv X T EX B) (ha : VE X T EX B a f) (hi : X.N[i]? = some x := by rfl) (hj : X.N[j]? = some y := by rfl) (hij : i ≠ j := by decide)
    (hx : X.env.scope.names.lookup x = some .local := by rfl) (hy : X.env.scope.names.lookup y = some .local := by rfl) (hs1 : starEach [a, .Dict [] [] p] X.env = (false, eval a X.env) :: starEach [.Dict [] [] p] X.env := by rfl) (hs2 : starEach [.Dict [] [] p] X.env = [(false, eval (.Dict [] [] p) X.env)] := by rfl)
    (hw : swappedStores [.Tuple [.Name x px, .Name y py] kt pt] (.Tuple [a, .Dict [] [] p] k' pt2) X.env = pure (some [x, y]) := by rfl) (hs : swapsWithSole [.Tuple [.Name x px, .Name y py] kt pt] (.Tuple [a, .Dict [] [] p] k' pt2) pos.line X.env = pure false := by rfl) :
    VS X T EX B (.Assign [.Tuple [.Name x px, .Name y py] kt pt] (.Tuple [a, .Dict [] [] p] k' pt2) pos) (sParD i j f) := by
  refine ps_weak (ps_par C.calm C.nd hi hj hij hx hy (pa_cons ha (pa_cons pe_dnewN pa_nil hs2) hs1) hw hs) fun D σ H q => ?_
  obtain ⟨G, env, S, o⟩ := q
  refine seqS S o fun v ev0 o0 => Out.fz fun w G' H' s rp => ?_
  clear ev0
  have S1 := S.step s
  clear o
  have o := o0.step s.gg
  clear o0
  split at o
  rotate_left
  · exact o.elim
  rename_i n
  split at o
  rotate_left
  · exact o.elim
  rename_i d
  intro r hr hsy
  have st : Step G' H' G' (upd H' r (rawO r { cls := .type "dict", data := .dict #[] })) := Step.apart S1.gh hr _
  have S2 := (S1.step st).setSh (i := i) (v := w) (d := d) rp
  refine ⟨w, .ref r, rfl, o G' _ _ (Same.refl _) (S2.setRg (i := j) (F := [r]) ?_ ⟨.dic upd_same ⟨hsy, ⟨rfl, rfl, rfl⟩, #[], 0, rfl, .nil, List.nodup_nil, by simp⟩, by simp, fun b m => ?_⟩ fun l ds q e1 e2 m => ?_)⟩
  · refine List.all_eq_true.mpr fun o m => ?_
    obtain ⟨l, hl⟩ := List.getElem?_of_mem m
    cases o with
    | none => rfl
    | some z =>
      cases z with
      | rg r2 =>
        rcases get_set hl with ⟨z, y⟩ | ⟨z, y⟩
        · cases y
        · rcases get_set y with ⟨z2, y2⟩ | ⟨z2, y2⟩
          · cases y2
          · exact (noRg_at n (j := l) (r := r2) (by rw [List.getElem?_set_ne z]; exact y2)).elim
      | _ => rfl
  · rw [List.mem_singleton.mp m]
    exact ⟨same_none S1.gh hr, SameH.free S1.st.hh hr⟩
  · have eq : q = r := List.mem_singleton.mp m
    subst eq
    obtain ⟨p', xs, h1, h2, _⟩ := S2.ow l ds e1
    rw [e2] at h1; cases h1
    rw [upd_same] at h2; cases h2
theorem vss_frzR (i : Nat) (h : VSs X T EX B sts s) : VSs X T EX B sts (sFrzR i s) := pss_weak h fun D σ H q => by
  obtain ⟨G, env, S, o⟩ := q
  unfold sFrzR at o
  split at o
  rotate_left
  · exact o.elim
  rename_i r ei
  split at o
  rotate_left
  · exact o.elim
  rename_i w ew
  obtain ⟨v, F, h1, h2, S2⟩ := S.frzR ei ew
  exact ⟨_, _, S2, o.step (addS_same fun a m => (h2.nw a m).1)⟩
end
end VL
namespace VL
open PySem L2
/-! ### statements that leave some names as they are -/
def Pin (Z : List Nat) (σ σ' : L2.St) : Prop := ∀ j ∈ Z, σ'[j]? = σ[j]?
theorem Pin.refl (Z : List Nat) (σ : L2.St) : Pin Z σ σ := fun _ _ => rfl
theorem Pin.trans {Z : List Nat} {σ σ1 σ2 : L2.St} (a : Pin Z σ σ1) (b : Pin Z σ1 σ2) : Pin Z σ σ2 := fun j m => (b j m).trans (a j m)
theorem Pin.set {Z : List Nat} {σ : L2.St} {i : Nat} {o : Option V} (h : i ∉ Z) : Pin Z σ (σ.set i o) := fun j m => by rw [List.getElem?_set_ne (fun z => h (by rw [z]; exact m))]
def OutZ (T : Ct) (B : Hp × Hp) (Z : List Nat) (σ : L2.St) (r : SR) (G : Hp) (P : L2.St → Hp → Prop) : Prop := match r with
  | .nx env => ∀ G' σ' H', Same G G' → Pin Z σ σ' → Sim T B G' env σ' H' → P σ' H'
  | _ => False
def rdZ (T : Ct) (B : Hp × Hp) (Z : List Nat) (f : FS) : TS := fun D σ H => ∃ G env, Sim T B G env σ H ∧ OutZ T B Z σ (f env) G D.nx
def tzS (T : Ct) (B : Hp × Hp) (Z : List Nat) (f : FS) (t : TS) : TS := fun D σ H => ∃ G env, Sim T B G env σ H ∧ OutZ T B Z σ (f env) G (t D)
section
variable {X : Cx} {T : Ct} {EX : XK} {B : Hp × Hp} {Z : List Nat} {e a b c b1 b2 b3 o tg : Expr} {es : List Expr} {pos p p2 px py pz tpos : Pos} {f g h g1 g2 g3 : FE} {fs gs : List FE} {G H G1 H1 : Hp} {Q : VK} {σ : L2.St} {env : VEnv} {D : Ends} {st : Stmt} {sts : List Stmt} {s t : FS} {P : L2.St → Hp → Prop} {tt : TS}
theorem OutZ.step {r : SR} (h : OutZ T B Z σ r G P) (s : Same G G1) : OutZ T B Z σ r G1 P := by
  cases r with
  | nx e => exact fun G' σ' H' s' p S => h G' σ' H' (s.trans s') p S
  | _ => exact h
theorem seqZ {k : SV → SR} {R : VK} (S : Sim T B G env σ H) (h : OutZ T B Z σ ((f env).s k) G P) (hk : ∀ v, f env = .val v → OutZ T B Z σ (k v) G P → Out T EX (.val v) G H R) : rdV T EX B f σ H R := by
  refine ⟨G, env, S, ?_⟩
  cases e : f env with
  | val v => rw [e] at h; exact hk v e h
  | err c => rw [e] at h; exact h.elim
  | stuck => rw [e] at h; exact h.elim
theorem zs_end (h : PSs X sts tt) : PSs X sts (tzS T B Z sNil tt) := pss_weak h fun D σ H q => by
  obtain ⟨G, env, S, o⟩ := q
  exact o G σ H (Same.refl _) (Pin.refl _ _) S
theorem zs_cons (h : PS X st (rdZ T B Z s)) (hr : PSs X sts (tzS T B Z t tt)) : PSs X (st :: sts) (tzS T B Z (sSeq s t) tt) := pss_weak (pss_cons h hr) fun D σ H q => by
  obtain ⟨G, env, S, o⟩ := q
  refine ⟨G, env, S, ?_⟩
  unfold sSeq at o
  revert o
  cases s env with
  | nx e =>
    intro o G' σ' H' sg pn S'
    refine ⟨G', e, S', ?_⟩
    revert o
    show OutZ T B Z σ (t e) G (tt D) → OutZ T B Z σ' (t e) G' (tt D)
    cases t e with
    | nx e2 => exact fun o G2 σ2 H2 s2 p2 S2 => o G2 σ2 H2 (sg.trans s2) (pn.trans p2) S2
    | _ => exact fun o => o
  | _ => exact fun o => o
/-- x[g] = d -/
theorem put_g {i : Nat} {d : VL.D} {e' : VEnv} {v : V} (S : Sim T B G env σ H) (dq : Dq G v d) (h : sPut i g (vC d) env = .nx e') (hQ : ∀ G' H', Same G G' → Sim T B G' e' σ H' → P σ H') : gSub (tVar i) (rdV T EX B g) rSetL v σ H P := by
  unfold sPut at h
  split at h
  rotate_left
  · cases h
  rename_i ds ei
  simp only [vC, R.s, SV.fz] at h
  split at h
  rotate_left
  · cases h
  · cases h
  rename_i k eg
  split at h
  rotate_left
  · cases h
  rename_i j ej
  cases h
  obtain ⟨q, xs, h1, h2, h3, h4, h5⟩ := S.ow i ds ei
  refine ⟨.ref q, h1, G, env, S, ?_⟩
  rw [eg]
  intro w G2 H2 s2 dw
  obtain ⟨h3', h2'⟩ := s2.own h3 h2
  exact ⟨q, xs, k, j, rfl, Dq.intInv dw, h2', by rw [h5.length]; exact ej, hQ G2 _ s2.gg ((S.step s2).write ei h1 (DqAll.set j (h5.mono s2.gg) (dq.mono s2.gg)))⟩
theorem sPut_val {i : Nat} {v : SV} {d : VL.D} (ev : f env = .val v) (ed : v.fz = .sh d) : sPut i g f env = sPut i g (vC d) env := by
  unfold sPut
  split
  · rw [ev]
    simp only [R.s]
    rw [ed]
    rfl
  · rfl
theorem vz_put (i : Nat) {x : Str} (C : Cv X T EX B) (hg : VE X T EX B b g) (he : VE X T EX B e f) (hN : X.N[i]? = some x := by rfl) (hv : Vis X.env.scope x := by first | exact Or.inl rfl | exact Or.inr (Or.inl rfl) | exact Or.inr (Or.inr rfl)) (hd : (x == ("__debug__" : Str)) = false := by decide) (hcd : (x == ("__classdict__" : Str)) = false := by decide)
    (hpg : ∀ {to ti : TE}, PE X (.Name x px) to → PE X b ti → PG X (.Subscript (.Name x px) b tpos) (gSub to ti rSetL) := by intro to ti h1 h2; exact pg_sub h1 h2 set_list)
    (hs : swapsWithSole [.Subscript (.Name x px) b tpos] e pos.line X.env = pure false := by rfl) (hw : swappedStores [.Subscript (.Name x px) b tpos] e X.env = pure none := by rfl) :
    PS X (.Assign [.Subscript (.Name x px) b tpos] e pos) (rdZ T B Z (sPut i g f)) := by
  refine ps_weak (ps_asg he (hpg (pe_var hN hv hd hcd) hg) hs hw) fun D σ H q => ?_
  obtain ⟨G, env, S, o⟩ := q
  refine ⟨G, env, S, ?_⟩
  cases ev : f env with
  | err c => unfold sPut at o; rw [ev] at o; split at o <;> exact o.elim
  | stuck => unfold sPut at o; rw [ev] at o; split at o <;> exact o.elim
  | val v =>
    refine Out.fz fun w G' H' s rp => ?_
    cases ed : v.fz with
    | sh d =>
      rw [sPut_val ev ed] at o
      rw [ed] at rp
      revert o
      cases eo : sPut i g (vC d) env with
      | nx e' => exact fun o => put_g (S.step s) rp eo fun G2 H2 sg S2 => o G2 σ H2 (s.gg.trans sg) (Pin.refl _ _) S2
      | _ => exact fun o => o.elim
    | _ => unfold sPut at o; rw [ev] at o; simp only [R.s, ed] at o; split at o <;> exact o.elim
/-! ### x[..], y[..] = .., .. -/
@[simp] def sNxO (s : FS) : FS := fun env => match s env with
  | .nx e => .nx e
  | _ => .stuck
@[simp] def sSetZ (i : Nat) (f : FE) : FS := fun env => match f env with
  | .val (.sh d) => .nx (env.set i (some (.sh d)))
  | _ => .stuck
@[simp] def sParZ (i j : Nat) (f g : FE) : FS := fun env => match f env, g env with
  | .val (.sh d), .val (.sh d') => .nx ((env.set i (some (.sh d))).set j (some (.sh d')))
  | _, _ => .stuck
@[simp] def sPutT2 (i : Nat) (g1 : FE) (j : Nat) (g2 : FE) (f : FE) : FS := fun env => match f env with
  | .val (.sh (.tuple [d1, d2])) => (match sPut i g1 (vC d1) env with
    | .nx e1 => sPut j g2 (vC d2) e1
    | _ => .stuck)
  | _ => .stuck
@[simp] def sPutT3 (i : Nat) (g1 : FE) (j : Nat) (g2 : FE) (l : Nat) (g3 : FE) (f : FE) : FS := fun env => match f env with
  | .val (.sh (.tuple [d1, d2, d3])) => (match sPut i g1 (vC d1) env with
    | .nx e1 => (match sPut j g2 (vC d2) e1 with
      | .nx e2 => sPut l g3 (vC d3) e2
      | _ => .stuck)
    | _ => .stuck)
  | _ => .stuck
theorem put2_core (i j : Nat) {K : PySem.W.Frag} {e' : VEnv} (S : Sim T B G env σ H) (er : sPutT2 i g1 j g2 f env = .nx e')
    (hP : ∀ G' H', Same G G' → Sim T B G' e' σ H' → P σ H') : rdV T EX B f σ H fun v H1 => gTup K 2 (gCons (gSub (tVar i) (rdV T EX B g1) rSetL) (gCons (gSub (tVar j) (rdV T EX B g2) rSetL) gNil)) v σ H1 P := by
  unfold sPutT2 at er
  split at er
  rotate_left
  · cases er
  rename_i d1 d2 ef
  split at er
  rotate_left
  · cases er
  rename_i e1 ee
  refine ⟨G, env, S, ?_⟩
  rw [ef]
  intro v G1 H1 s1 dq
  obtain ⟨q, xs, rfl, sq, qs⟩ := dq.tupInv
  have S1 := S.step s1
  obtain ⟨w1, r1, rfl, q1, qs⟩ := qs.inv
  obtain ⟨w2, r2, rfl, q2, qs⟩ := qs.inv
  have := qs.inv0
  subst this
  refine ⟨q, _, rfl, sqT_K (same_seqT S1.gh sq), rfl, w1, [w2], rfl, put_g S1 q1 ee fun G2 H2 sg2 S2 => ⟨w2, [], rfl, put_g S2 (q2.mono sg2) er fun G3 H3 sg3 S3 => ⟨rfl, ?_⟩⟩⟩
  exact hP G3 H3 (s1.gg.trans (sg2.trans sg3)) S3
theorem put3_core (i j l : Nat) {K : PySem.W.Frag} {e' : VEnv} (S : Sim T B G env σ H) (er : sPutT3 i g1 j g2 l g3 f env = .nx e')
    (hP : ∀ G' H', Same G G' → Sim T B G' e' σ H' → P σ H') : rdV T EX B f σ H fun v H1 => gTup K 3 (gCons (gSub (tVar i) (rdV T EX B g1) rSetL) (gCons (gSub (tVar j) (rdV T EX B g2) rSetL) (gCons (gSub (tVar l) (rdV T EX B g3) rSetL) gNil))) v σ H1 P := by
  unfold sPutT3 at er
  split at er
  rotate_left
  · cases er
  rename_i d1 d2 d3 ef
  split at er
  rotate_left
  · cases er
  rename_i e1 ee
  split at er
  rotate_left
  · cases er
  rename_i e2 ee2
  refine ⟨G, env, S, ?_⟩
  rw [ef]
  intro v G1 H1 s1 dq
  obtain ⟨q, xs, rfl, sq, qs⟩ := dq.tupInv
  have S1 := S.step s1
  obtain ⟨w1, r1, rfl, q1, qs⟩ := qs.inv
  obtain ⟨w2, r2, rfl, q2, qs⟩ := qs.inv
  obtain ⟨w3, r3, rfl, q3, qs⟩ := qs.inv
  have := qs.inv0
  subst this
  refine ⟨q, _, rfl, sqT_K (same_seqT S1.gh sq), rfl, w1, [w2, w3], rfl, put_g S1 q1 ee fun G2 H2 sg2 S2 => ⟨w2, [w3], rfl, put_g S2 (q2.mono sg2) ee2 fun G3 H3 sg3 S3 => ⟨w3, [], rfl, put_g S3 (q3.mono (sg2.trans sg3)) er fun G4 H4 sg4 S4 => ⟨rfl, ?_⟩⟩⟩⟩
  exact hP G4 H4 (s1.gg.trans (sg2.trans (sg3.trans sg4))) S4
theorem vz_put2 (i j : Nat) {x y : Str} {tx ty tp : Pos} {kt : Nat} (C : Cv X T EX B) (hg1 : VE X T EX B b1 g1) (hg2 : VE X T EX B b2 g2) (he : VE X T EX B e f) (hN : X.N[i]? = some x := by rfl) (hv : Vis X.env.scope x := by first | exact Or.inl rfl | exact Or.inr (Or.inl rfl) | exact Or.inr (Or.inr rfl)) (hd : (x == ("__debug__" : Str)) = false := by decide) (hcd : (x == ("__classdict__" : Str)) = false := by decide)
    (hN2 : X.N[j]? = some y := by rfl) (hv2 : Vis X.env.scope y := by first | exact Or.inl rfl | exact Or.inr (Or.inl rfl) | exact Or.inr (Or.inr rfl)) (hd2 : (y == ("__debug__" : Str)) = false := by decide) (hcd2 : (y == ("__classdict__" : Str)) = false := by decide)
    (hpg : ∀ {to ti to2 ti2 : TE}, PE X (.Name x px) to → PE X b1 ti → PE X (.Name y py) to2 → PE X b2 ti2 → PG X (.Tuple [.Subscript (.Name x px) b1 tx, .Subscript (.Name y py) b2 ty] kt tp) (gTup X.K 2 (gCons (gSub to ti rSetL) (gCons (gSub to2 ti2 rSetL) gNil))) := by intro to ti to2 ti2 h1 h2 h3 h4; exact pg_tup rfl (pgs_cons (pg_sub h1 h2 set_list) (pgs_cons (pg_sub h3 h4 set_list) pgs_nil)))
    (hs : swapsWithSole [.Tuple [.Subscript (.Name x px) b1 tx, .Subscript (.Name y py) b2 ty] kt tp] e pos.line X.env = pure false := by rfl) (hw : swappedStores [.Tuple [.Subscript (.Name x px) b1 tx, .Subscript (.Name y py) b2 ty] kt tp] e X.env = pure none := by rfl) (ha : (assignEach [.Tuple [.Subscript (.Name x px) b1 tx, .Subscript (.Name y py) b2 ty] kt tp] X.env).map (fun x => x.2) = [assign (.Tuple [.Subscript (.Name x px) b1 tx, .Subscript (.Name y py) b2 ty] kt tp) X.env] := by rfl) :
    PS X (.Assign [.Tuple [.Subscript (.Name x px) b1 tx, .Subscript (.Name y py) b2 ty] kt tp] e pos) (rdZ T B Z (sPutT2 i g1 j g2 f)) := by
  refine ps_weak (ps_asg he (hpg (pe_var hN hv hd hcd) hg1 (pe_var hN2 hv2 hd2 hcd2) hg2) hs hw ha) fun D σ H q => ?_
  obtain ⟨G, env, S, o⟩ := q
  revert o
  cases er : sPutT2 i g1 j g2 f env with
  | nx e' => exact fun o => put2_core i j S er fun G' H' sg S' => o G' σ H' sg (Pin.refl _ _) S'
  | _ => exact fun o => o.elim
theorem vs_put2 (i j : Nat) {x y : Str} {tx ty tp : Pos} {kt : Nat} (C : Cv X T EX B) (hg1 : VE X T EX B b1 g1) (hg2 : VE X T EX B b2 g2) (he : VE X T EX B e f) (hN : X.N[i]? = some x := by rfl) (hv : Vis X.env.scope x := by first | exact Or.inl rfl | exact Or.inr (Or.inl rfl) | exact Or.inr (Or.inr rfl)) (hd : (x == ("__debug__" : Str)) = false := by decide) (hcd : (x == ("__classdict__" : Str)) = false := by decide)
    (hN2 : X.N[j]? = some y := by rfl) (hv2 : Vis X.env.scope y := by first | exact Or.inl rfl | exact Or.inr (Or.inl rfl) | exact Or.inr (Or.inr rfl)) (hd2 : (y == ("__debug__" : Str)) = false := by decide) (hcd2 : (y == ("__classdict__" : Str)) = false := by decide)
    (hpg : ∀ {to ti to2 ti2 : TE}, PE X (.Name x px) to → PE X b1 ti → PE X (.Name y py) to2 → PE X b2 ti2 → PG X (.Tuple [.Subscript (.Name x px) b1 tx, .Subscript (.Name y py) b2 ty] kt tp) (gTup X.K 2 (gCons (gSub to ti rSetL) (gCons (gSub to2 ti2 rSetL) gNil))) := by intro to ti to2 ti2 h1 h2 h3 h4; exact pg_tup rfl (pgs_cons (pg_sub h1 h2 set_list) (pgs_cons (pg_sub h3 h4 set_list) pgs_nil)))
    (hs : swapsWithSole [.Tuple [.Subscript (.Name x px) b1 tx, .Subscript (.Name y py) b2 ty] kt tp] e pos.line X.env = pure false := by rfl) (hw : swappedStores [.Tuple [.Subscript (.Name x px) b1 tx, .Subscript (.Name y py) b2 ty] kt tp] e X.env = pure none := by rfl) (ha : (assignEach [.Tuple [.Subscript (.Name x px) b1 tx, .Subscript (.Name y py) b2 ty] kt tp] X.env).map (fun x => x.2) = [assign (.Tuple [.Subscript (.Name x px) b1 tx, .Subscript (.Name y py) b2 ty] kt tp) X.env] := by rfl) :
    VS X T EX B (.Assign [.Tuple [.Subscript (.Name x px) b1 tx, .Subscript (.Name y py) b2 ty] kt tp] e pos) (sNxO (sPutT2 i g1 j g2 f)) := by
  refine ps_weak (ps_asg he (hpg (pe_var hN hv hd hcd) hg1 (pe_var hN2 hv2 hd2 hcd2) hg2) hs hw ha) fun D σ H q => ?_
  obtain ⟨G, env, S, o⟩ := q
  unfold sNxO at o
  revert o
  cases er : sPutT2 i g1 j g2 f env with
  | nx e' => exact fun o => put2_core i j S er fun G' H' sg S' => o G' σ H' sg S'
  | rt _ => exact fun o => o.elim
  | err _ => exact fun o => o.elim
  | stuck => exact fun o => o.elim
theorem vz_put3 (i j l : Nat) {x y z : Str} {tx ty tz tp : Pos} {kt : Nat} (C : Cv X T EX B) (hg1 : VE X T EX B b1 g1) (hg2 : VE X T EX B b2 g2) (hg3 : VE X T EX B b3 g3) (he : VE X T EX B e f) (hN : X.N[i]? = some x := by rfl) (hv : Vis X.env.scope x := by first | exact Or.inl rfl | exact Or.inr (Or.inl rfl) | exact Or.inr (Or.inr rfl)) (hd : (x == ("__debug__" : Str)) = false := by decide) (hcd : (x == ("__classdict__" : Str)) = false := by decide)
    (hN2 : X.N[j]? = some y := by rfl) (hv2 : Vis X.env.scope y := by first | exact Or.inl rfl | exact Or.inr (Or.inl rfl) | exact Or.inr (Or.inr rfl)) (hd2 : (y == ("__debug__" : Str)) = false := by decide) (hcd2 : (y == ("__classdict__" : Str)) = false := by decide)
    (hN3 : X.N[l]? = some z := by rfl) (hv3 : Vis X.env.scope z := by first | exact Or.inl rfl | exact Or.inr (Or.inl rfl) | exact Or.inr (Or.inr rfl)) (hd3 : (z == ("__debug__" : Str)) = false := by decide) (hcd3 : (z == ("__classdict__" : Str)) = false := by decide)
    (hpg : ∀ {to ti to2 ti2 to3 ti3 : TE}, PE X (.Name x px) to → PE X b1 ti → PE X (.Name y py) to2 → PE X b2 ti2 → PE X (.Name z pz) to3 → PE X b3 ti3 → PG X (.Tuple [.Subscript (.Name x px) b1 tx, .Subscript (.Name y py) b2 ty, .Subscript (.Name z pz) b3 tz] kt tp) (gTup X.K 3 (gCons (gSub to ti rSetL) (gCons (gSub to2 ti2 rSetL) (gCons (gSub to3 ti3 rSetL) gNil)))) := by intro to ti to2 ti2 to3 ti3 h1 h2 h3 h4 h5 h6; exact pg_tup rfl (pgs_cons (pg_sub h1 h2 set_list) (pgs_cons (pg_sub h3 h4 set_list) (pgs_cons (pg_sub h5 h6 set_list) pgs_nil))))
    (hs : swapsWithSole [.Tuple [.Subscript (.Name x px) b1 tx, .Subscript (.Name y py) b2 ty, .Subscript (.Name z pz) b3 tz] kt tp] e pos.line X.env = pure false := by rfl) (hw : swappedStores [.Tuple [.Subscript (.Name x px) b1 tx, .Subscript (.Name y py) b2 ty, .Subscript (.Name z pz) b3 tz] kt tp] e X.env = pure none := by rfl) (ha : (assignEach [.Tuple [.Subscript (.Name x px) b1 tx, .Subscript (.Name y py) b2 ty, .Subscript (.Name z pz) b3 tz] kt tp] X.env).map (fun x => x.2) = [assign (.Tuple [.Subscript (.Name x px) b1 tx, .Subscript (.Name y py) b2 ty, .Subscript (.Name z pz) b3 tz] kt tp) X.env] := by rfl) :
    PS X (.Assign [.Tuple [.Subscript (.Name x px) b1 tx, .Subscript (.Name y py) b2 ty, .Subscript (.Name z pz) b3 tz] kt tp] e pos) (rdZ T B Z (sPutT3 i g1 j g2 l g3 f)) := by
  refine ps_weak (ps_asg he (hpg (pe_var hN hv hd hcd) hg1 (pe_var hN2 hv2 hd2 hcd2) hg2 (pe_var hN3 hv3 hd3 hcd3) hg3) hs hw ha) fun D σ H q => ?_
  obtain ⟨G, env, S, o⟩ := q
  revert o
  cases er : sPutT3 i g1 j g2 l g3 f env with
  | nx e' => exact fun o => put3_core i j l S er fun G' H' sg S' => o G' σ H' sg (Pin.refl _ _) S'
  | _ => exact fun o => o.elim
theorem vz_set (i : Nat) {x : Str} {pos' : Pos} (C : Cv X T EX B) (he : VE X T EX B e f) (iZ : i ∉ Z := by decide) (hi : X.N[i]? = some x := by rfl) (hx : Loc X.env.scope x := by first | exact .inl rfl | exact .inr rfl) (hs : swapsWith e (some (.Name x pos')) pos.line X.env = pure false := by rfl) (hf : X.fn x = true ∨ X.env.scope.names.lookup x = some .local := by first | exact .inl rfl | exact .inr rfl) :
    PS X (.Assign [.Name x pos'] e pos) (rdZ T B Z (sSetZ i f)) := ps_weak (ps_set C.nd hi hx he hs hf) fun D σ H q => by
  obtain ⟨G, env, S, o⟩ := q
  refine ⟨G, env, S, ?_⟩
  unfold sSetZ at o
  split at o
  · rename_i d ef
    rw [ef]
    intro v G' H' s dq
    exact o G' _ H' s.gg (Pin.set iZ) ((S.step s).setSh dq)
  · exact o.elim
theorem vz_par2 (i j : Nat) {x y : Str} {pt : Pos} {kt k' pt2} (C : Cv X T EX B) (ha : VE X T EX B a f) (hb : VE X T EX B b g) (iZ : i ∉ Z := by decide) (jZ : j ∉ Z := by decide) (hi : X.N[i]? = some x := by rfl) (hj : X.N[j]? = some y := by rfl) (hij : i ≠ j := by decide)
    (hx : X.env.scope.names.lookup x = some .local := by rfl) (hy : X.env.scope.names.lookup y = some .local := by rfl) (hs1 : starEach [a, b] X.env = (false, eval a X.env) :: starEach [b] X.env := by rfl) (hs2 : starEach [b] X.env = [(false, eval b X.env)] := by rfl)
    (hw : swappedStores [.Tuple [.Name x px, .Name y py] kt pt] (.Tuple [a, b] k' pt2) X.env = pure (some [x, y]) := by rfl) (hs : swapsWithSole [.Tuple [.Name x px, .Name y py] kt pt] (.Tuple [a, b] k' pt2) pos.line X.env = pure false := by rfl) :
    PS X (.Assign [.Tuple [.Name x px, .Name y py] kt pt] (.Tuple [a, b] k' pt2) pos) (rdZ T B Z (sParZ i j f g)) := by
  refine ps_weak (ps_par C.calm C.nd hi hj hij hx hy (pa_cons ha (pa_cons hb pa_nil hs2) hs1) hw hs) fun D σ H q => ?_
  obtain ⟨G, env, S, o⟩ := q
  refine ⟨G, env, S, ?_⟩
  unfold sParZ at o
  split at o
  · rename_i d d' ef eg
    rw [ef]
    intro v G1 H1 s1 dq
    refine ⟨G1, env, S.step s1, ?_⟩
    rw [eg]
    intro w G2 H2 s2 dq2
    exact ⟨v, w, rfl, o G2 _ H2 (s1.gg.trans s2.gg) ((Pin.set iZ).trans (Pin.set jZ)) ((((S.step s1).step s2).setSh (dq.mono s2.gg)).setSh dq2)⟩
  · exact o.elim
end
end VL
namespace VL
open PySem L2
/-! ### three lists in a list, a thing of one's own -/
def R3 (as bs cs : List D) : RD := .lst [.lst (as.map .dat), .lst (bs.map .dat), .lst (cs.map .dat)]
section
variable {T : Ct} {G H : Hp}
theorem dat_inv : ∀ {as : List D} {S : List Addr} {xs : List V}, RRpAll T G H S xs (as.map .dat) → S = [] ∧ DqAll G xs as
  | [], _, _, .nil => ⟨rfl, .nil⟩
  | a :: as, _, _, .cons (.dat h) r => by
    obtain ⟨rfl, q⟩ := dat_inv r
    exact ⟨rfl, .cons h q⟩
theorem dat_mk : ∀ {as : List D} {xs : List V}, DqAll G xs as → RRpAll T G H [] xs (as.map .dat)
  | [], _, q => by rw [q.inv0]; exact .nil
  | a :: as, _, q => by
    obtain ⟨v, vs, rfl, q1, q2⟩ := q.inv
    exact .cons (S := []) (S' := []) (.dat q1) (dat_mk q2)
theorem r3_inv {F : List Addr} {v : V} {as bs cs : List D} (h : RRp T G H F v (R3 as bs cs)) : ∃ p a b c xa xb xc, F = [p, a, b, c] ∧ v = .ref p ∧ H p = some (.lst [.ref a, .ref b, .ref c]) ∧ H a = some (.lst xa) ∧ H b = some (.lst xb) ∧ H c = some (.lst xc) ∧ DqAll G xa as ∧ DqAll G xb bs ∧ DqAll G xc cs := by
  unfold R3 at h
  cases h with
  | lst h q =>
    cases q with
    | cons h1 q =>
      cases q with
      | cons h2 q =>
        cases q with
        | cons h3 q =>
          cases q
          cases h1 with
          | lst e1 q1 =>
            cases h2 with
            | lst e2 q2 =>
              cases h3 with
              | lst e3 q3 =>
                obtain ⟨rfl, d1⟩ := dat_inv q1
                obtain ⟨rfl, d2⟩ := dat_inv q2
                obtain ⟨rfl, d3⟩ := dat_inv q3
                exact ⟨_, _, _, _, _, _, _, rfl, rfl, h, e1, e2, e3, d1, d2, d3⟩
theorem r3_mk {p a b c : Addr} {xa xb xc : List V} {as bs cs : List D} (h : H p = some (.lst [.ref a, .ref b, .ref c])) (h1 : H a = some (.lst xa)) (h2 : H b = some (.lst xb)) (h3 : H c = some (.lst xc)) (d1 : DqAll G xa as) (d2 : DqAll G xb bs) (d3 : DqAll G xc cs) : RRp T G H [p, a, b, c] (.ref p) (R3 as bs cs) :=
  .lst (S := [a, b, c]) h (.cons (S := [a]) (S' := [b, c]) (.lst h1 (dat_mk d1)) (.cons (S := [b]) (S' := [c]) (.lst h2 (dat_mk d2)) (.cons (S := [c]) (S' := []) (.lst h3 (dat_mk d3)) .nil)))
end
@[simp] def asR3 : RD → Option (List D × List D × List D)
  | .lst [.lst x, .lst y, .lst z] => match RD.toDs x, RD.toDs y, RD.toDs z with
    | some a, some b, some c => some (a, b, c)
    | _, _, _ => none
  | _ => none
@[simp] theorem fzv_R3 (as bs cs : List D) : (R3 as bs cs).fzv = some (.sh (.list [.list as, .list bs, .list cs])) := by
  simp only [R3, RD.fzv, RD.toDs, RD.toD, toDs_dat, Option.map_some]
/-! ### [.., .., ..] of lists -/
@[simp] def vRg3 (f g h : FE) : FE := fun env => match f env, g env, h env with
  | .val (.ow x), .val (.ow y), .val (.ow z) => .val (.rg (R3 x y z))
  | _, _, _ => .stuck
@[simp] def sParR (i j : Nat) (f g : FE) : FS := fun env => if noRg (env.set i none) = true then (match f env, g env with
  | .val (.rg r), .val (.ow ds) => .nx ((env.set i (some (.rg r))).set j (some (.ow ds)))
  | _, _ => .stuck) else .stuck
section
variable {X : Cx} {T : Ct} {EX : XK} {B : Hp × Hp} {Z : List Nat} {e a b c o tg : Expr} {es : List Expr} {pos p p2 px py pz tpos : Pos} {f g h : FE} {fs gs : List FE} {G H G1 H1 : Hp} {Q : VK} {σ : L2.St} {env : VEnv} {D : Ends} {st : Stmt} {sts : List Stmt} {s t : FS} {tt : TS}
theorem ve_rg3 (ha : VE X T EX B a f) (hb : VE X T EX B b g) (hc : VE X T EX B c h) (hs : starEach [a, b, c] X.env = (false, eval a X.env) :: starEach [b, c] X.env := by rfl) (hs1 : starEach [b, c] X.env = (false, eval b X.env) :: starEach [c] X.env := by rfl) (hs2 : starEach [c] X.env = [(false, eval c X.env)] := by rfl) : VE X T EX B (.List [a, b, c] pos) (vRg3 f g h) := by
  refine pe_weak (pe_lst (pa_cons ha (pa_cons hb (pa_cons hc pa_nil hs2) hs1) hs)) fun σ H Q q => ?_
  obtain ⟨G, env, S, o⟩ := q
  unfold vRg3 at o
  split at o
  rotate_left
  · exact o.elim
  rename_i x y z ef eg eh
  refine ⟨G, env, S, ?_⟩
  rw [ef]
  intro p1 x1 G1 H1 s1 n1 m1 e1 d1
  refine ⟨G1, env, S.step s1, ?_⟩
  rw [eg]
  intro p2 x2 G2 H2 s2 n2 m2 e2 d2
  obtain ⟨m1', e1'⟩ := s2.own m1 e1
  refine ⟨G2, env, (S.step s1).step s2, ?_⟩
  rw [eh]
  intro p3 x3 G3 H3 s3 n3 m3 e3 d3
  obtain ⟨m1'', e1''⟩ := s3.own m1' e1'
  obtain ⟨m2', e2'⟩ := s3.own m2 e2
  refine ⟨by show 3 ≤ sizeLine; rw [sizeLine_eq]; omega, fun p hp => ?_⟩
  have ss := (s1.trans s2).trans s3
  have k1 : p1 ≠ p := fun z => by rw [z, hp] at e1''; cases e1''
  have k2 : p2 ≠ p := fun z => by rw [z, hp] at e2'; cases e2'
  have k3 : p3 ≠ p := fun z => by rw [z, hp] at e3; cases e3
  have j12 : p1 ≠ p2 := fun z => by rw [z, n2] at e1; cases e1
  have j13 : p1 ≠ p3 := fun z => by rw [z, n3] at e1'; cases e1'
  have j23 : p2 ≠ p3 := fun z => by rw [z, n3] at e2; cases e2
  refine o (.ref p) [p, p1, p2, p3] G3 _ (ss.trans (Step.apart ss.gh hp _)) ?_ ?_ (r3_mk upd_same ((upd_ne k1).trans e1'') ((upd_ne k2).trans e2') ((upd_ne k3).trans e3) ((d1.mono s2.gg).mono s3.gg) (d2.mono s3.gg) d3)
  · simp only [List.nodup_cons, List.mem_cons, List.not_mem_nil, or_false, not_or, not_false_eq_true, List.nodup_nil, and_true]
    exact ⟨⟨k1.symm, k2.symm, k3.symm⟩, ⟨j12, j13⟩, j23⟩
  · intro q m
    simp only [List.mem_cons, List.not_mem_nil, or_false] at m
    rcases m with rfl | rfl | rfl | rfl
    · exact ⟨same_none ss.gh hp, ss.hh.free hp⟩
    · exact ⟨m1'', n1⟩
    · exact ⟨m2', s1.hh.free n2⟩
    · exact ⟨m3, (s1.trans s2).hh.free n3⟩
theorem vs_parR (i j : Nat) {x y : Str} {kt k' pt2} (C : Cv X T EX B) (ha : VE X T EX B a f) (hb : VE X T EX B b g) (hi : X.N[i]? = some x := by rfl) (hj : X.N[j]? = some y := by rfl) (hij : i ≠ j := by decide)
    (hx : X.env.scope.names.lookup x = some .local := by rfl) (hy : X.env.scope.names.lookup y = some .local := by rfl) (hs1 : starEach [a, b] X.env = (false, eval a X.env) :: starEach [b] X.env := by rfl) (hs2 : starEach [b] X.env = [(false, eval b X.env)] := by rfl)
    (hw : swappedStores [.Tuple [.Name x px, .Name y py] kt p] (.Tuple [a, b] k' pt2) X.env = pure (some [x, y]) := by rfl) (hs : swapsWithSole [.Tuple [.Name x px, .Name y py] kt p] (.Tuple [a, b] k' pt2) pos.line X.env = pure false := by rfl) :
    VS X T EX B (.Assign [.Tuple [.Name x px, .Name y py] kt p] (.Tuple [a, b] k' pt2) pos) (sParR i j f g) := by
  refine ps_weak (ps_par C.calm C.nd hi hj hij hx hy (pa_cons ha (pa_cons hb pa_nil hs2) hs1) hw hs) fun D σ H q => ?_
  obtain ⟨G, env, S, o⟩ := q
  unfold sParR at o
  split at o
  rotate_left
  · exact o.elim
  rename_i nr
  split at o
  rotate_left
  · exact o.elim
  rename_i r ds ef eg
  refine ⟨G, env, S, ?_⟩
  rw [ef]
  intro v F G1 H1 s1 nd nw rr
  have S1 := S.step s1
  refine ⟨G1, env, S1, ?_⟩
  rw [eg]
  intro q xs G2 H2 s2 n1 n2 e2 d2
  have S2 := S1.step s2
  have ra : RgAt T B G1 H1 F v r := ⟨rr, nd, fun a m => ⟨(nw a m).1, SameH.free S.st.hh (nw a m).2⟩⟩
  have ra2 := ra.step s2
  have S3 := S2.setRg (i := i) (v := v) nr ra2 fun l es q' e1 e2 m => by
    obtain ⟨q2, ys, h1, h2, _⟩ := S.ow l es e1
    rw [e2] at h1; cases h1
    have := (nw q' m).2
    rw [h2] at this; cases this
  have kF := (s2.keepS (fun a m => (ra.nw a m).1) (RRp.at _ _ _ rr)).2
  have qF : q ∉ F := fun m => by
    obtain ⟨ob, e, _⟩ := RRp.at _ _ _ rr q m
    rw [n1] at e; cases e
  refine ⟨v, .ref q, rfl, o G2 _ H2 (s1.gg.trans s2.gg) (S3.setOw (i := j) (SameH.free S1.st.hh n1) n2 e2 d2 (fun l es e1 _ e3 => ?_) fun l r' v' F' e1 _ e3 rr' => ?_)⟩
  · rcases get_set e1 with ⟨z, y⟩ | ⟨z, y⟩
    · cases y
    · rw [List.getElem?_set_ne z] at e3
      obtain ⟨q2, ys, h1, h2, _⟩ := S1.ow l es y
      rw [e3] at h1; cases h1
      rw [n1] at h2; cases h2
  · rcases get_set e1 with ⟨z, y⟩ | ⟨z, y⟩
    · subst z
      cases y
      have hl : i < σ.length := by
        have := (List.getElem?_eq_some_iff.mp e1).1
        rw [List.length_set] at this
        rw [← S.len]; exact this
      rw [List.getElem?_set_self hl] at e3
      cases e3
      rw [RRp.det r F F' v ra2.rp rr' fun _ _ => rfl]
      exact qF
    · exact (noRg_at nr (j := l) (r := r') (by rw [List.getElem?_set_ne z]; exact y)).elim
/-! ### x, y, z = r -/
def tUnp3 (K : PySem.W.Frag) (i ja jb jc : Nat) : TS := fun D σ H => ∃ v, σ[i]? = some (some v) ∧ ∃ p x y z, v = .ref p ∧ SqL K H p [x, y, z] ∧ D.nx (((σ.set ja (some x)).set jb (some y)).set jc (some z)) H
theorem ps_unp3 (i ja jb jc : Nat) {x na nb nc : Str} {kt : Nat} {pa pb pc pt : Pos} (C : Cv X T EX B) (hi : X.N[i]? = some x := by rfl) (vi : Vis X.env.scope x := by first | exact Or.inl rfl | exact Or.inr (Or.inl rfl) | exact Or.inr (Or.inr rfl)) (di : (x == ("__debug__" : Str)) = false := by decide) (ci : (x == ("__classdict__" : Str)) = false := by decide)
    (ha : X.N[ja]? = some na := by rfl) (hb : X.N[jb]? = some nb := by rfl) (hc : X.N[jc]? = some nc := by rfl) (la : Loc X.env.scope na := by first | exact .inl rfl | exact .inr rfl) (lb : Loc X.env.scope nb := by first | exact .inl rfl | exact .inr rfl) (lc : Loc X.env.scope nc := by first | exact .inl rfl | exact .inr rfl)
    (fa : X.fn na = true ∨ X.env.scope.names.lookup na = some .local := by first | exact .inl rfl | exact .inr rfl) (fb : X.fn nb = true ∨ X.env.scope.names.lookup nb = some .local := by first | exact .inl rfl | exact .inr rfl) (fc : X.fn nc = true ∨ X.env.scope.names.lookup nc = some .local := by first | exact .inl rfl | exact .inr rfl)
    (hs : swapsWithSole [.Tuple [.Name na pa, .Name nb pb, .Name nc pc] kt pt] (.Name x px) pos.line X.env = pure false := by rfl) (hw : swappedStores [.Tuple [.Name na pa, .Name nb pb, .Name nc pc] kt pt] (.Name x px) X.env = pure none := by rfl)
    (h1 : (assignEach [.Tuple [.Name na pa, .Name nb pb, .Name nc pc] kt pt] X.env).map (fun x => x.2) = [assign (.Tuple [.Name na pa, .Name nb pb, .Name nc pc] kt pt) X.env] := by rfl)
    (hn : (assignEach [.Name na pa, .Name nb pb, .Name nc pc] X.env).length = 3 := by rfl) (hst : (assignEach [.Name na pa, .Name nb pb, .Name nc pc] X.env).findIdx? (·.1) = none := by rfl) :
    PS X (.Assign [.Tuple [.Name na pa, .Name nb pb, .Name nc pc] kt pt] (.Name x px) pos) (tUnp3 X.K i ja jb jc) := by
  refine ps_weak (ps_asg (pe_var hi vi di ci) (pg_lst C.calm (pgs_cons (pg_name (i := ja) C.nd ha la fa) (pgs_cons (pg_name (i := jb) C.nd hb lb fb) (pgs_cons (pg_name (i := jc) C.nd hc lc fc) pgs_nil))) hn hst) hs hw h1) fun D σ H q => ?_
  obtain ⟨v, e1, q, x, y, z, rfl, sq, d⟩ := q
  exact ⟨.ref q, e1, q, [x, y, z], rfl, sq, rfl, x, [y, z], rfl, y, [z], rfl, z, [], rfl, rfl, d⟩
end
end VL
namespace VL
open PySem L2
/-! ### the three lists by names of their own -/
def allDat : List RD → Option (List D)
  | [] => some []
  | .dat d :: r => (allDat r).map (d :: ·)
  | _ => none
theorem allDat_eq : ∀ {q : List RD} {ds : List D}, allDat q = some ds → q = ds.map .dat
  | [], ds, h => by unfold allDat at h; cases h; rfl
  | .dat d :: r, ds, h => by
    unfold allDat at h
    obtain ⟨l, e, rfl⟩ := Option.map_eq_some_iff.mp h
    rw [List.map_cons, allDat_eq e]
  | .lst _ :: _, _, h => by unfold allDat at h; cases h
  | .tup _ :: _, _, h => by unfold allDat at h; cases h
  | .ins _ _ :: _, _, h => by unfold allDat at h; cases h
  | .jk :: _, _, h => by unfold allDat at h; cases h
  | .dic _ :: _, _, h => by unfold allDat at h; cases h
theorem allDat_map : ∀ ds : List D, allDat (ds.map .dat) = some ds
  | [] => rfl
  | d :: ds => by rw [List.map_cons, allDat, allDat_map ds]; rfl
def unR3 : RD → Option (List D × List D × List D)
  | .lst [.lst x, .lst y, .lst z] => match allDat x, allDat y, allDat z with
    | some a, some b, some c => some (a, b, c)
    | _, _, _ => none
  | _ => none
theorem unR3_eq {r : RD} {a b c : List D} (h : unR3 r = some (a, b, c)) : r = R3 a b c := by
  unfold unR3 at h
  split at h
  · split at h
    · rename_i e1 e2 e3
      cases h
      rw [allDat_eq e1, allDat_eq e2, allDat_eq e3]
      rfl
    · cases h
  · cases h
@[simp] theorem unR3_R3 (a b c : List D) : unR3 (R3 a b c) = some (a, b, c) := by
  unfold R3 unR3
  simp only [allDat_map]
@[simp] def sAl (i ja jb jc : Nat) (f s : FS) : FS := fun env => match env[i]? with
  | some (some (.rg r)) => (match unR3 r with
    | some (as, bs, cs) => (match f ((((env.set i none).set ja (some (.ow as))).set jb (some (.ow bs))).set jc (some (.ow cs))) with
      | .nx e => (match e[ja]?, e[jb]?, e[jc]? with
        | some (some (.ow as')), some (some (.ow bs')), some (some (.ow cs')) => if noRg e = true then s ((((e.set ja none).set jb none).set jc none).set i (some (.rg (R3 as' bs' cs')))) else .stuck
        | _, _, _ => .stuck)
      | _ => .stuck)
    | none => .stuck)
  | _ => .stuck
section
variable {X : Cx} {T : Ct} {EX : XK} {B B' : Hp × Hp} {Z : List Nat} {e a b c o tg : Expr} {es : List Expr} {pos px : Pos} {f g h : FE} {fs gs : List FE} {G H G1 H1 : Hp} {Q : VK} {σ : L2.St} {env : VEnv} {D : Ends} {st : Stmt} {sts : List Stmt} {s t : FS} {tt : TS}
theorem noRg_set {i : Nat} {v : Option SV} (h : noRg env = true) (hv : isRg v = false) : noRg (env.set i v) = true := by
  refine List.all_eq_true.mpr fun o m => ?_
  obtain ⟨l, hl⟩ := List.getElem?_of_mem m
  rcases get_set hl with ⟨_, y⟩ | ⟨_, y⟩
  · subst y; rw [hv]; rfl
  · exact List.all_eq_true.mp h o (List.mem_of_getElem? y)
theorem al_start {ja jb jc : Nat} {pa pb pc : Addr} {xa xb xc : List V} {as bs cs : List VL.D} (S : Sim T B G env σ H) (nr : noRg env = true) (ha : H pa = some (.lst xa)) (hb : H pb = some (.lst xb)) (hc : H pc = some (.lst xc)) (da : DqAll G xa as) (db : DqAll G xb bs) (dc : DqAll G xc cs)
    (ga : G pa = none ∧ B.2 pa = none) (gb : G pb = none ∧ B.2 pb = none) (gc : G pc = none ∧ B.2 pc = none) (nab : pa ≠ pb) (nac : pa ≠ pc) (nbc : pb ≠ pc)
    (ap : ∀ (j : Nat) ds q, env[j]? = some (some (.ow ds)) → σ[j]? = some (some (.ref q)) → q ≠ pa ∧ q ≠ pb ∧ q ≠ pc) :
    Sim T B G (((env.set ja (some (.ow as))).set jb (some (.ow bs))).set jc (some (.ow cs))) (((σ.set ja (some (.ref pa))).set jb (some (.ref pb))).set jc (some (.ref pc))) H := by
  have S1 := S.setOw (i := ja) ga.2 ga.1 ha da (fun j es e1 _ e2 => (ap j es pa e1 e2).1 rfl) fun j r v F e1 _ _ _ => (noRg_at nr e1).elim
  have nr1 : noRg (env.set ja (some (.ow as))) = true := noRg_set nr rfl
  have ap1 : ∀ (j : Nat) ds q, (env.set ja (some (.ow as)))[j]? = some (some (.ow ds)) → (σ.set ja (some (.ref pa)))[j]? = some (some (.ref q)) → q = pa ∨ (q ≠ pb ∧ q ≠ pc) := fun j ds q e1 e2 => by
    rcases get_set e2 with ⟨_, y⟩ | ⟨z, y⟩
    · cases y; exact .inl rfl
    · rw [List.getElem?_set_ne z] at e1
      exact .inr (ap j ds q e1 y).2
  have S2 := S1.setOw (i := jb) gb.2 gb.1 hb db (fun j es e1 _ e2 => by
    rcases ap1 j es pb e1 e2 with z | z
    · exact nab z.symm
    · exact z.1 rfl) fun j r v F e1 _ _ _ => (noRg_at nr1 e1).elim
  have nr2 : noRg ((env.set ja (some (.ow as))).set jb (some (.ow bs))) = true := noRg_set nr1 rfl
  exact S2.setOw (i := jc) gc.2 gc.1 hc dc (fun j es e1 _ e2 => by
    rcases get_set e2 with ⟨_, y⟩ | ⟨z, y⟩
    · cases y; exact nbc rfl
    · rw [List.getElem?_set_ne z] at e1
      rcases ap1 j es pc e1 y with q | q
      · exact nac q.symm
      · exact q.2 rfl) fun j r v F e1 _ _ _ => (noRg_at nr2 e1).elim
theorem Sim.rebase (S : Sim T B' G env σ H) (nr : noRg env = true) (h1 : B'.1 = B.1) (h2 : Same B.2 B'.2) : Sim T B G env σ H :=
  ⟨⟨(SameH.of h2).trans S.st.hh, h1 ▸ S.st.gg, S.st.gh, fun a z1 z2 => h2.free (S.st.nw a (by rw [h1]; exact z1) z2), fun n => S.st.nm (by rw [h1]; exact n)⟩, by rw [← h1]; exact S.nb, S.me, S.len, S.sh, S.ob, fun i ds e => by
    obtain ⟨p, xs, a1, a2, a3, a4, a5⟩ := S.ow i ds e
    exact ⟨p, xs, a1, a2, a3, h2.free a4, a5⟩, S.ap, fun i r e => (noRg_at nr e).elim⟩
theorem al_end {ja : Nat} {pa : Addr} {as : List VL.D} (S : Sim T B G env σ H) (e : env[ja]? = some (some (.ow as))) (hs : σ[ja]? = some (some (.ref pa))) : ∃ xa, H pa = some (.lst xa) ∧ G pa = none ∧ DqAll G xa as := by
  obtain ⟨q, xs, a1, a2, a3, _, a5⟩ := S.ow ja as e
  rw [hs] at a1; cases a1
  exact ⟨xs, a2, a3, a5⟩
theorem Sim.rise (S : Sim T B G env σ H) (nr : noRg env = true) {p : Addr} {ob : HO} (hp : H p = some ob) (gp : G p = none) (ap : ∀ (j : Nat) ds q, env[j]? = some (some (.ow ds)) → σ[j]? = some (some (.ref q)) → q ≠ p) : Sim T (B.1, upd B.2 p ob) G env σ H := by
  refine ⟨⟨fun b o e => ?_, S.st.gg, S.st.gh, fun a z1 z2 => ?_, S.st.nm⟩, S.nb, S.me, S.len, S.sh, S.ob, fun i ds e => ?_, S.ap, fun i r e => (noRg_at nr e).elim⟩
  · by_cases z : b = p
    · subst z
      have e : upd B.2 b ob b = some o := e
      rw [upd_same] at e
      cases e
      exact ⟨_, hp, .inl rfl⟩
    · have e : upd B.2 p ob b = some o := e
      rw [upd_ne z] at e
      exact S.st.hh b o e
  · show upd B.2 p ob a = none
    have : a ≠ p := fun z => z2 (z ▸ gp)
    rw [upd_ne this]
    exact S.st.nw a z1 z2
  · obtain ⟨q, xs, a1, a2, a3, a4, a5⟩ := S.ow i ds e
    refine ⟨q, xs, a1, a2, a3, ?_, a5⟩
    show upd B.2 p ob q = none
    rw [upd_ne (ap i ds q e a1)]
    exact a4
theorem noRg_one {i : Nat} {r : RD} (u : ∀ (j : Nat) r', env[j]? = some (some (.rg r')) → j = i) : noRg (env.set i none) = true := by
  refine List.all_eq_true.mpr fun o m => ?_
  obtain ⟨l, hl⟩ := List.getElem?_of_mem m
  cases o with
  | none => rfl
  | some w =>
    cases w with
    | rg r2 =>
      rcases get_set hl with ⟨z, y⟩ | ⟨z, y⟩
      · cases y
      · exact absurd (u l r2 y).symm z
    | _ => rfl
theorem set_id {i : Nat} {v : V} (h : σ[i]? = some (some v)) : σ.set i (some v) = σ := by
  refine List.ext_getElem? fun j => ?_
  by_cases z : i = j
  · subst z
    rw [List.getElem?_set_self (List.getElem?_eq_some_iff.mp h).1, h]
  · rw [List.getElem?_set_ne z]
theorem vss_al (i ja jb jc : Nat) (hz : ∀ B' : Hp × Hp, PSs X sts (tzS T B' [i, ja, jb, jc] t (rdS T EX B s))) (hp : PS X st (tUnp3 X.K i ja jb jc)) (n1 : i ≠ ja := by decide) (n2 : i ≠ jb := by decide) (n3 : i ≠ jc := by decide) (n4 : ja ≠ jb := by decide) (n5 : ja ≠ jc := by decide) (n6 : jb ≠ jc := by decide) :
    VSs X T EX B (st :: sts) (sAl i ja jb jc t s) := by
  have hr : PSs X sts (fun D σ H => ∃ B', tzS T B' [i, ja, jb, jc] t (rdS T EX B s) D σ H) := ⟨fun pins s' σ H D I ⟨B', q⟩ => (hz B').run pins s' σ H D I q⟩
  refine pss_weak (pss_cons hp hr) fun D σ H q => ?_
  obtain ⟨G, env, S, o⟩ := q
  unfold sAl at o
  split at o
  rotate_left
  · exact o.elim
  rename_i r ei
  split at o
  rotate_left
  · exact o.elim
  rename_i as bs cs eu
  split at o
  rotate_left
  · exact o.elim
  rename_i e ef
  split at o
  rotate_left
  · exact o.elim
  rename_i as' bs' cs' ea eb ec
  split at o
  rotate_left
  · exact o.elim
  rename_i nr
  have er := unR3_eq eu
  subst er
  obtain ⟨u, v, F, hv, ra, ap⟩ := S.rg i _ ei
  obtain ⟨p, pa, pb, pc, xa, xb, xc, rfl, rfl, hp0, ha, hb, hc, da, db, dc⟩ := r3_inv ra.rp
  have nd := ra.nd
  simp only [List.nodup_cons, List.mem_cons, List.not_mem_nil, or_false, not_or, not_false_eq_true, List.nodup_nil, and_true] at nd
  obtain ⟨⟨k1, k2, k3⟩, ⟨k4, k5⟩, k6⟩ := nd
  have nw : ∀ q, q ∈ [p, pa, pb, pc] → G q = none ∧ B.2 q = none := ra.nw
  have nwp := nw p (by simp)
  have nwa := nw pa (by simp)
  have nwb := nw pb (by simp)
  have nwc := nw pc (by simp)
  have nr0 : noRg (env.set i none) = true := noRg_one (r := R3 as bs cs) u
  have ap0 : ∀ (j : Nat) ds q, (env.set i none)[j]? = some (some (.ow ds)) → σ[j]? = some (some (.ref q)) → q ≠ p ∧ q ≠ pa ∧ q ≠ pb ∧ q ≠ pc := fun j ds q e1 e2 => by
    rcases get_set e1 with ⟨_, y⟩ | ⟨_, y⟩
    · cases y
    · have := ap j ds q y e2
      simp only [List.mem_cons, List.not_mem_nil, or_false, not_or] at this
      exact this
  have S0 := (S.forget i).rise nr0 hp0 nwp.1 fun j ds q e1 e2 => (ap0 j ds q e1 e2).1
  refine ⟨.ref p, hv, p, .ref pa, .ref pb, .ref pc, rfl, SqL.of hp0, (B.1, upd B.2 p (.lst [.ref pa, .ref pb, .ref pc])), G, _, al_start (ja := ja) (jb := jb) (jc := jc) S0 nr0 ha hb hc da db dc ⟨nwa.1, ?_⟩ ⟨nwb.1, ?_⟩ ⟨nwc.1, ?_⟩ k4 k5 k6 (fun j ds q e1 e2 => (ap0 j ds q e1 e2).2), ?_⟩
  · show upd B.2 p _ pa = none
    rw [upd_ne (Ne.symm k1)]; exact nwa.2
  · show upd B.2 p _ pb = none
    rw [upd_ne (Ne.symm k2)]; exact nwb.2
  · show upd B.2 p _ pc = none
    rw [upd_ne (Ne.symm k3)]; exact nwc.2
  rw [ef]
  intro G' σ' H' sg pn S'
  have pi : σ'[i]? = some (some (.ref p)) := by
    rw [pn i (by simp), List.getElem?_set_ne n3.symm, List.getElem?_set_ne n2.symm, List.getElem?_set_ne n1.symm]; exact hv
  have at3 : ∀ (j : Nat) (q : Addr), j ∈ [i, ja, jb, jc] → (((σ.set ja (some (.ref pa))).set jb (some (.ref pb))).set jc (some (.ref pc)))[j]? = some (some (.ref q)) → σ'[j]? = some (some (.ref q)) := fun j q m z => (pn j m).trans z
  obtain ⟨qa, ya, sa, _⟩ := S'.ow ja as' ea
  obtain ⟨qb, yb, sb, _⟩ := S'.ow jb bs' eb
  obtain ⟨qc, yc, sc, _⟩ := S'.ow jc cs' ec
  have ia : qa = pa := by
    have z := sa
    rw [pn ja (by simp), List.getElem?_set_ne n5.symm, List.getElem?_set_ne n4.symm] at z
    rcases get_set z with ⟨_, y⟩ | ⟨y, _⟩
    · cases y; rfl
    · exact absurd rfl y
  have ib : qb = pb := by
    have z := sb
    rw [pn jb (by simp), List.getElem?_set_ne n6.symm] at z
    rcases get_set z with ⟨_, y⟩ | ⟨y, _⟩
    · cases y; rfl
    · exact absurd rfl y
  have ic : qc = pc := by
    have z := sc
    rw [pn jc (by simp)] at z
    rcases get_set z with ⟨_, y⟩ | ⟨y, _⟩
    · cases y; rfl
    · exact absurd rfl y
  subst ia ib ic
  obtain ⟨xa', ha', ga', da'⟩ := al_end S' ea sa
  obtain ⟨xb', hb', gb', db'⟩ := al_end S' eb sb
  obtain ⟨xc', hc', gc', dc'⟩ := al_end S' ec sc
  have bp : B.1 p = none := S.st.gg.free nwp.1
  obtain ⟨gp', hp'⟩ := S'.st.own (p := p) (o := .lst [.ref qa, .ref qb, .ref qc]) bp upd_same
  have SB := S'.rebase (B := B) nr rfl (same_upd nwp.2 _)
  have nr3 : noRg (((e.set ja none).set jb none).set jc none) = true := noRg_set (noRg_set (noRg_set nr rfl) rfl) rfl
  have SF := (((SB.forget ja).forget jb).forget jc).setRg (i := i) (v := .ref p) (F := [p, qa, qb, qc]) (r := R3 as' bs' cs') (noRg_set nr3 rfl) ⟨r3_mk hp' ha' hb' hc' da' db' dc', ra.nd, fun q m => ?_⟩ fun l ds q e1 e2 m => ?_
  · rw [set_id pi] at SF
    exact ⟨G', _, SF, o.step sg⟩
  · have bq := (nw q m).2
    simp only [List.mem_cons, List.not_mem_nil, or_false] at m
    rcases m with rfl | rfl | rfl | rfl
    · exact ⟨gp', bq⟩
    · exact ⟨ga', bq⟩
    · exact ⟨gb', bq⟩
    · exact ⟨gc', bq⟩
  · rcases get_set e1 with ⟨_, y⟩ | ⟨y3, e1⟩
    · cases y
    rcases get_set e1 with ⟨_, y⟩ | ⟨y2, e1⟩
    · cases y
    rcases get_set e1 with ⟨_, y⟩ | ⟨y1, e1⟩
    · cases y
    simp only [List.mem_cons, List.not_mem_nil, or_false] at m
    rcases m with rfl | rfl | rfl | rfl
    · obtain ⟨q', xs, a1, _, _, a4, _⟩ := S'.ow l ds e1
      rw [e2] at a1; cases a1
      have : upd B.2 q (.lst [.ref qa, .ref qb, .ref qc]) q = none := a4
      rw [upd_same] at this; cases this
    · exact y1 (S'.ap ja l as' ds q ea e1 sa e2)
    · exact y2 (S'.ap jb l bs' ds q eb e1 sb e2)
    · exact y3 (S'.ap jc l cs' ds q ec e1 sc e2)
end
end VL
namespace VL
open PySem L2
/-! ### a def that changes three lists handed in -/
abbrev M3 := List D → List D → List D → D → D → Option (List D × List D × List D × D)
structure At3 (G H : Hp) (p a b c : Addr) (xa xb xc : List V) (as bs cs : List D) : Prop where
  hp : H p = some (.lst [.ref a, .ref b, .ref c])
  ha : H a = some (.lst xa)
  hb : H b = some (.lst xb)
  hc : H c = some (.lst xc)
  da : DqAll G xa as
  db : DqAll G xb bs
  dc : DqAll G xc cs
  ng : ∀ q ∈ [p, a, b, c], G q = none
def spP (T : Ct) (m : M3) : Sp := fun vs H Q _ => ∃ G p a b c xa xb xc as bs cs v1 v2 d1 d2 as' bs' cs' r, vs = [.ref p, v1, v2] ∧ Same G H ∧ NoMem G ∧ (∀ z, T.me = some z → ∃ o, H z = some o ∧ Mem o) ∧ [p, a, b, c].Nodup ∧ At3 G H p a b c xa xb xc as bs cs ∧ Dq G v1 d1 ∧ Dq G v2 d2 ∧ m as bs cs d1 d2 = some (as', bs', cs', r) ∧
  ∀ v G' H' xa' xb' xc', Step G (hidS H [a, b, c]) G' H' → At3 G' H' p a b c xa' xb' xc' as' bs' cs' → Dq G' v r → Q v H'
def FnP (P : Program) (w : World) (K : PySem.W.Frag) (mg : Str → Option Value) (base : Heap) (T : Ct) (k : Nat) (x : Str) (m : M3) : Prop :=
  ∃ f fd ps, FnGd P w K mg base (L2.CX P w) k f fd ps (spP T m) ∧ mg x = some (.ref f) ∧ PySem.W.keepIn K (.ref f) = true ∧ Binds K fd ps []
@[simp] def startP (n ja jb jc : Nat) (as bs cs : List D) (d1 d2 : D) : VEnv := ((([SV.ob 102 [], SV.sh d1, SV.sh d2].map some ++ List.replicate (n - 3) none).set ja (some (.ow as))).set jb (some (.ow bs))).set jc (some (.ow cs))
@[simp] def runP (n ja jb jc : Nat) (t : FS) (fr : FE) : M3 := fun as bs cs d1 d2 => match t (startP n ja jb jc as bs cs d1 d2) with
  | .nx e => (match e[ja]?, e[jb]?, e[jc]?, fr e with
    | some (some (.ow as')), some (some (.ow bs')), some (some (.ow cs')), .val (.sh r) => some (as', bs', cs', r)
    | _, _, _, _ => none)
  | _ => none
theorem hid_in {H : Hp} {S : List Addr} : Same (hidS H S) H := fun b o e => by
  by_cases m : b ∈ S
  · rw [hidS_in m] at e; cases e
  · rw [hidS_out m] at e; exact e
section
variable {P : Program} {w : World} {K : PySem.W.Frag} {mg : Str → Option Value} {base : Heap} {T : Ct}
/-- the end of such a def: a value is told -/
def tEnd (T : Ct) (E : XK) (B : Hp × Hp) (fr : FE) : TS := fun D σ H => rdV T E B fr σ H D.rt
theorem fnP_mk {x q : Str} {st : Stmt} {N ps : List Str} {k : Nat} {t : FS} {fr : FE} {tend : XK → Hp × Hp → TS} (ja jb jc : Nat) (d : Df K mg x q st ps) (S : FnScope N ps (defScope st)) (hps : ps.length = 3)
    (hend : ∀ (E : XK) (B : Hp × Hp) (Q : VK) (σ : L2.St) (H : Hp), rdV T E B fr σ H Q → tend E B { nx := fun _ H' => Q .non H', rt := Q } σ H)
    (hb : ∀ (f : Addr) (cdv : Value) (A : Around) (outer : List Env) (s0 : Shared) (H : Hp) (E : XK) (B : Hp × Hp), Room k (A.deeper (PyProof.Rows.envOfC q (defScope st) s0.heap.objs.size f cdv)) →
      Cv (cxOf (L2.CX P w) P w K mg base N q (defScope st) f cdv A outer s0 H E) T E B →
      PSs (cxOf (L2.CX P w) P w K mg base N q (defScope st) f cdv A outer s0 H E) (defBody st) (fun D σ H => tUnp3 K 0 ja jb jc { D with nx := tzS T B [0, ja, jb, jc] t (tend E B) D } σ H))
    (n1 : 0 ≠ ja := by decide) (n2 : 0 ≠ jb := by decide) (n3 : 0 ≠ jc := by decide) (n4 : ja ≠ jb := by decide) (n5 : ja ≠ jc := by decide) (n6 : jb ≠ jc := by decide) :
    FnP P w K mg base T (k + 1) x (runP N.length ja jb jc t fr) := by
  obtain ⟨f, fd, F, hm, hbi⟩ := d
  refine ⟨f, fd, ps, gd_mk F S (fun vs H Q E h => ?_) (fun cdv A outer s0 H vs Q E hq hr h => ?_), hm, F.kp, hbi⟩
  · obtain ⟨_, _, _, _, _, _, _, _, _, _, _, _, _, _, _, _, _, _, _, rfl, _⟩ := h
    rw [hps]; rfl
  obtain ⟨G, p, pa, pb, pc, xa, xb, xc, as, bs, cs, v1, v2, d1, d2, as', bs', cs', r, rfl, gh, nb, mo, nd, A3, q1, q2, em, fin⟩ := h
  have tk : Takes (cxOf (L2.CX P w) P w K mg base N q (defScope st) f cdv A outer s0 H E) (fun cls d _ H => E cls d H) := takes_of rfl rfl rfl rfl
  have nd0 := nd
  simp only [List.nodup_cons, List.mem_cons, List.not_mem_nil, or_false, not_or, not_false_eq_true, List.nodup_nil, and_true] at nd0
  obtain ⟨⟨k1, k2, k3⟩, ⟨k4, k5⟩, k6⟩ := nd0
  have pabc : p ∉ [pa, pb, pc] := by simp only [List.mem_cons, List.not_mem_nil, or_false, not_or]; exact ⟨k1, k2, k3⟩
  have Cc : Cv (cxOf (L2.CX P w) P w K mg base N q (defScope st) f cdv A outer s0 H E) T E (G, hidS H [pa, pb, pc]) := ⟨rfl, S.nd, passes_call tk fun _ _ _ _ z => z, by
    have := hr.un
    show (A.deeper (PyProof.Rows.envOfC q (defScope st) s0.heap.objs.size f cdv)).units + 150 < cLine
    omega, hq⟩
  refine ⟨_, hb f cdv A outer s0 H E (G, hidS H [pa, pb, pc]) hr Cc, ?_⟩
  have S0 : Sim T (G, H) G ([SV.ob 102 [], .sh d1, .sh d2].map some ++ List.replicate (N.length - 3) none) (start N [.ref p, v1, v2]) H := sim_start (as := [.ob 102 [], .sh d1, .sh d2]) N.length gh nb mo (.cons (by
    show ObRp T G _ 102 []
    unfold ObRp
    rw [if_neg (by decide), if_neg (by decide), if_pos rfl]
    trivial) (.cons q1 (.cons q2 .nil))) N rfl
  have nr : noRg ([SV.ob 102 [], .sh d1, .sh d2].map some ++ List.replicate (N.length - 3) none) = true := by
    refine List.all_eq_true.mpr fun o m => ?_
    rcases List.mem_append.mp m with m | m
    · simp only [List.map_cons, List.map_nil, List.mem_cons, List.not_mem_nil, or_false] at m
      rcases m with rfl | rfl | rfl <;> rfl
    · rw [(List.mem_replicate.mp m).2]; rfl
  have S1 := S0.rebase (B := (G, hidS H [pa, pb, pc])) nr rfl hid_in
  have no : ∀ (j : Nat) ds q, ([SV.ob 102 [], .sh d1, .sh d2].map some ++ List.replicate (N.length - 3) none)[j]? = some (some (.ow ds)) → (start N [.ref p, v1, v2])[j]? = some (some (.ref q)) → q ≠ pa ∧ q ≠ pb ∧ q ≠ pc := fun j ds q e _ => by
    exfalso
    have m := List.mem_of_getElem? e
    rcases List.mem_append.mp m with m | m
    · simp at m
    · have := (List.mem_replicate.mp m).2
      cases this
  have S2 := al_start (ja := ja) (jb := jb) (jc := jc) S1 nr A3.ha A3.hb A3.hc A3.da A3.db A3.dc ⟨A3.ng pa (by simp), hidS_in (by simp)⟩ ⟨A3.ng pb (by simp), hidS_in (by simp)⟩ ⟨A3.ng pc (by simp), hidS_in (by simp)⟩ k4 k5 k6 no
  refine ⟨.ref p, rfl, p, .ref pa, .ref pb, .ref pc, rfl, SqL.of A3.hp, G, _, S2, ?_⟩
  unfold runP at em
  split at em
  rotate_left
  · cases em
  rename_i e et
  split at em
  rotate_left
  · cases em
  rename_i as2 bs2 cs2 r2 ea eb ec er
  cases em
  have et' : t (((([SV.ob 102 [], .sh d1, .sh d2].map some ++ List.replicate (N.length - 3) none).set ja (some (.ow as))).set jb (some (.ow bs))).set jc (some (.ow cs))) = .nx e := et
  rw [et']
  intro G' σ' H' sg pn S'
  obtain ⟨qa, ya, sa, _⟩ := S'.ow ja as' ea
  obtain ⟨qb, yb, sb, _⟩ := S'.ow jb bs' eb
  obtain ⟨qc, yc, sc, _⟩ := S'.ow jc cs' ec
  have ia : qa = pa := by
    have z := sa
    rw [pn ja (by simp), List.getElem?_set_ne n5.symm, List.getElem?_set_ne n4.symm] at z
    rcases get_set z with ⟨_, y⟩ | ⟨y, _⟩
    · cases y; rfl
    · exact absurd rfl y
  have ib : qb = pb := by
    have z := sb
    rw [pn jb (by simp), List.getElem?_set_ne n6.symm] at z
    rcases get_set z with ⟨_, y⟩ | ⟨y, _⟩
    · cases y; rfl
    · exact absurd rfl y
  have ic : qc = pc := by
    have z := sc
    rw [pn jc (by simp)] at z
    rcases get_set z with ⟨_, y⟩ | ⟨y, _⟩
    · cases y; rfl
    · exact absurd rfl y
  subst ia ib ic
  obtain ⟨xa', ha', ga', da'⟩ := al_end S' ea sa
  obtain ⟨xb', hb', gb', db'⟩ := al_end S' eb sb
  obtain ⟨xc', hc', gc', dc'⟩ := al_end S' ec sc
  have hpo : hidS H [qa, qb, qc] p = some (.lst [.ref qa, .ref qb, .ref qc]) := (hidS_out pabc).trans A3.hp
  obtain ⟨gp', hp'⟩ := S'.st.own (p := p) (o := .lst [.ref qa, .ref qb, .ref qc]) (A3.ng p (by simp)) hpo
  refine hend E _ Q σ' H' ⟨G', e, S', ?_⟩
  rw [er]
  intro v G2 H2 s2 dv
  obtain ⟨gp2, hp2⟩ := s2.own gp' hp'
  obtain ⟨ga2, ha2⟩ := s2.own ga' ha'
  obtain ⟨gb2, hb2⟩ := s2.own gb' hb'
  obtain ⟨gc2, hc2⟩ := s2.own gc' hc'
  refine fin v G2 H2 xa' xb' xc' (S'.st.trans s2) ⟨hp2, ha2, hb2, hc2, da'.mono s2.gg, db'.mono s2.gg, dc'.mono s2.gg, fun z m => ?_⟩ dv
  simp only [List.mem_cons, List.not_mem_nil, or_false] at m
  rcases m with rfl | rfl | rfl | rfl
  · exact gp2
  · exact ga2
  · exact gb2
  · exact gc2
theorem fnP_zero {x q : Str} {st : Stmt} {ps : List Str} (d : Df K mg x q st ps) : FnP P w K mg base T 0 x (fun _ _ _ _ _ => none) := by
  obtain ⟨f, fd, F, hm, hbi⟩ := d
  have no : ∀ vs H Q E, ¬ spP T (fun _ _ _ _ _ => none) vs H Q E := fun vs H Q E h => by
    obtain ⟨_, _, _, _, _, _, _, _, _, _, _, _, _, _, _, _, _, _, _, _, _, _, _, _, _, _, _, em, _⟩ := h
    cases em
  exact ⟨f, fd, ps, ⟨fun vs H Q E h => absurd h (no vs H Q E), fun A outer s H args us vs Q E _ _ _ _ _ h => absurd h (no vs H Q E)⟩, hm, F.kp, hbi⟩
end
/-! ### such a def is called -/
@[simp] def callP (i : Nat) (m : M3) (fs : List FE) (k : VEnv → D → SR) : FS := fun env => match env[i]? with
  | some (some (.rg r)) => (match unR3 r, evA fs env with
    | some (as, bs, cs), .val [.sh d1, .sh d2] => (match m as bs cs d1 d2 with
      | some (as', bs', cs', v) => k (env.set i (some (.rg (R3 as' bs' cs')))) v
      | none => .stuck)
    | _, _ => .stuck)
  | _ => .stuck
@[simp] def sCallP (i : Nat) (m : M3) (fs : List FE) : FS := callP i m fs fun e _ => .nx e
@[simp] def sIfNotP (i : Nat) (m : M3) (fs : List FE) (s t : FS) : FS := callP i m fs fun e v => match v with
  | .bool true => t e
  | .bool false => s e
  | _ => .stuck
section
variable {X : Cx} {T : Ct} {EX : XK} {B B' : Hp × Hp} {e a b c o tg : Expr} {es : List Expr} {pos p px cpos : Pos} {f g h : FE} {fs gs : List FE} {G H G1 H1 : Hp} {Q : VK} {σ : L2.St} {env : VEnv} {D : Ends} {st : Stmt} {sts : List Stmt} {s t : FS} {tt : TS}
theorem Sim.hide (S : Sim T B G env σ H) (nr : noRg env = true) {F : List Addr} (nF : ∀ q ∈ F, G q = none ∧ B.2 q = none) (mF : ∀ q ∈ F, ∃ o, H q = some o ∧ ¬ Mem o) (ap : ∀ (j : Nat) ds q, env[j]? = some (some (.ow ds)) → σ[j]? = some (some (.ref q)) → q ∉ F) : Sim T B G env σ (hidS H F) := by
  refine ⟨⟨fun b o e => ?_, S.st.gg, fun b o e => ?_, S.st.nw, S.st.nm⟩, S.nb, fun z e => ?_, S.len, S.sh, S.ob, fun i ds e => ?_, S.ap, fun i r e => (noRg_at nr e).elim⟩
  · rw [hidS_out fun m => by rw [(nF b m).2] at e; cases e]
    exact S.st.hh b o e
  · rw [hidS_out fun m => by rw [(nF b m).1] at e; cases e]
    exact S.st.gh b o e
  · obtain ⟨o, e1, m1⟩ := S.me z e
    refine ⟨o, ?_, m1⟩
    rw [hidS_out fun m => ?_]; exact e1
    obtain ⟨o', e2, m2⟩ := mF z m
    rw [e1] at e2; cases e2; exact m2 m1
  · obtain ⟨q, xs, a1, a2, a3, a4, a5⟩ := S.ow i ds e
    exact ⟨q, xs, a1, by rw [hidS_out (ap i ds q e a1)]; exact a2, a3, a4, a5⟩
theorem callP_core {i : Nat} {m : M3} {k : VEnv → VL.D → SR} {R : VK} (S : Sim T B G env σ H) (o : OutS T EX B (callP i m fs k env) G D)
    (hk : ∀ (e' : VEnv) (r : VL.D) v G' H', OutS T EX B (k e' r) G' D → Dq G' v r → Sim T B G' e' σ H' → R v H') :
    tCallS (spP T m) (fun _ => EX) (tCons (tVar i) (rdA T EX B fs)) σ H R := by
  unfold callP at o
  split at o
  rotate_left
  · exact o.elim
  rename_i r ei
  split at o
  rotate_left
  · exact o.elim
  rename_i as bs cs d1 d2 eu ev
  split at o
  rotate_left
  · exact o.elim
  rename_i as' bs' cs' rv em
  have er := unR3_eq eu
  subst er
  obtain ⟨_, v, _, hv, _, _⟩ := S.rg i _ ei
  refine ⟨v, hv, G, env, S, ?_⟩
  rw [ev]
  intro vs G1 H1 s1 rp
  have S1 := S.step s1
  cases rp with
  | cons q1 rp =>
    cases rp with
    | cons q2 rp =>
      cases rp
      obtain ⟨u, v', F, hv', ra, ap⟩ := S1.rg i _ ei
      rw [hv] at hv'
      cases hv'
      obtain ⟨p, pa, pb, pc, xa, xb, xc, rfl, rfl, hp0, ha, hb, hc, da, db, dc⟩ := r3_inv ra.rp
      refine ⟨G1, p, pa, pb, pc, xa, xb, xc, as, bs, cs, _, _, d1, d2, as', bs', cs', rv, rfl, S1.gh, S1.st.nm S1.nb, S1.me, ra.nd, ⟨hp0, ha, hb, hc, da, db, dc, fun q m => (ra.nw q m).1⟩, q1, q2, em, fun w G' H' xa' xb' xc' st A3 dw => ?_⟩
      have nr0 : noRg (env.set i none) = true := noRg_one (r := R3 as bs cs) u
      have ap0 : ∀ (j : Nat) ds q, (env.set i none)[j]? = some (some (.ow ds)) → σ[j]? = some (some (.ref q)) → q ∉ [p, pa, pb, pc] := fun j ds q e1 e2 => by
        rcases get_set e1 with ⟨_, y⟩ | ⟨_, y⟩
        · cases y
        · exact ap j ds q y e2
      have Sh := (S1.forget i).hide nr0 (F := [pa, pb, pc]) (fun q m => ra.nw q (List.mem_cons_of_mem _ m)) (fun q m => RRp.at _ _ _ ra.rp q (List.mem_cons_of_mem _ m)) fun j ds q e1 e2 m => ap0 j ds q e1 e2 (List.mem_cons_of_mem _ m)
      have S2 := Sh.step st
      have SF := S2.setRg (i := i) (v := .ref p) (F := [p, pa, pb, pc]) (r := R3 as' bs' cs') (by rw [List.set_set]; exact nr0) ⟨r3_mk A3.hp A3.ha A3.hb A3.hc A3.da A3.db A3.dc, ra.nd, fun q m => ⟨A3.ng q m, (ra.nw q m).2⟩⟩ ap0
      rw [set_id hv, List.set_set] at SF
      exact hk _ _ w G' H' ((o.step s1.gg).step st.gg) dw SF
theorem vs_callP (i : Nat) {x y : Str} {k : Nat} {m : M3} {e1 : Expr} (C : Cv X T EX B) (F : FnP X.prog X.w X.K X.mg X.base T k x m) (hr : Room k X.A) (hg : Gl X x) (ha : VA X T EX B (e1 :: es) fs) (hN : X.N[i]? = some y := by rfl) (hv : Vis X.env.scope y := by first | exact Or.inl rfl | exact Or.inr (Or.inl rfl) | exact Or.inr (Or.inr rfl)) (hd : (y == ("__debug__" : Str)) = false := by decide) (hcd : (y == ("__classdict__" : Str)) = false := by decide)
    (hdx : (x == ("__debug__" : Str)) = false := by decide) (hs : starEach (.Name y px :: e1 :: es) X.env = (false, eval (.Name y px) X.env) :: starEach (e1 :: es) X.env := by rfl) (hpl : ((backTo cpos (starEach (e1 :: es) X.env)).any fun z => z.1) = false := by rfl) (hsw : swapsWith (.Call (.Name x p) (.Name y px :: e1 :: es) [] cpos) none pos.line X.env = pure false := by rfl) :
    VS X T EX B (.Expr (.Call (.Name x p) (.Name y px :: e1 :: es) [] cpos) pos) (sCallP i m fs) := by
  obtain ⟨fa, fd, ps, F, hm, hk, hb⟩ := F
  refine ps_weak (ps_expr (pe_callG (E := fun _ => EX) F C.gd hr hg hm hk hb (fun σ pn H s e s' => C.pass pn σ H s e s') (pa_cons (pe_var hN hv hd hcd) ha hs) hdx hs hpl) hsw) fun D σ H q => ?_
  obtain ⟨G, env, S, o⟩ := q
  exact callP_core S o fun e' r v G' H' o' dq S' => o' G' σ H' (Same.refl _) S'
theorem vs_ifNotP (i : Nat) {x y : Str} {k : Nat} {m : M3} {e1 : Expr} {pn : Pos} {sa sb : List Stmt} (C : Cv X T EX B) (F : FnP X.prog X.w X.K X.mg X.base T k x m) (hr : Room k X.A) (hg : Gl X x) (ha : VA X T EX B (e1 :: es) fs) (h1 : VSs X T EX B sa s) (h2 : VSs X T EX B sb t) (hN : X.N[i]? = some y := by rfl) (hv : Vis X.env.scope y := by first | exact Or.inl rfl | exact Or.inr (Or.inl rfl) | exact Or.inr (Or.inr rfl)) (hd : (y == ("__debug__" : Str)) = false := by decide) (hcd : (y == ("__classdict__" : Str)) = false := by decide)
    (hdx : (x == ("__debug__" : Str)) = false := by decide) (hs : starEach (.Name y px :: e1 :: es) X.env = (false, eval (.Name y px) X.env) :: starEach (e1 :: es) X.env := by rfl) (hpl : ((backTo cpos (starEach (e1 :: es) X.env)).any fun z => z.1) = false := by rfl) (he : ∀ whole, isTrue (.Call (.Name x p) (.Name y px :: e1 :: es) [] cpos) X.env whole = (do let v ← whole; standAt (Expr.Call (.Name x p) (.Name y px :: e1 :: es) [] cpos).pos; holding [v] (truthy v)) := by intro _; rfl) :
    VS X T EX B (.If (.UnaryOp .Not (.Call (.Name x p) (.Name y px :: e1 :: es) [] cpos) pn) sa sb pos) (sIfNotP i m fs s t) := by
  obtain ⟨fa, fd, ps, F, hm, hk, hb⟩ := F
  refine ps_weak (ps_if (pt_not (pt_val (pe_callG (E := fun _ => EX) F C.gd hr hg hm hk hb (fun σ pn H s e s' => C.pass pn σ H s e s') (pa_cons (pe_var hN hv hd hcd) ha hs) hdx hs hpl) he)) h1 h2) fun D σ H q => ?_
  obtain ⟨G, env, S, o⟩ := q
  refine callP_core S o fun e' r v G' H' o' dq S' => ?_
  split at o'
  · refine ⟨true, dq.blInv, ?_⟩
    exact ⟨G', e', S', o'⟩
  · refine ⟨false, dq.blInv, ?_⟩
    exact ⟨G', e', S', o'⟩
  · exact o'.elim
end
end VL
namespace VL
open PySem L2
theorem Cv.reb {X : Cx} {T : Ct} {EX : XK} {B : Hp × Hp} (C : Cv X T EX B) (B' : Hp × Hp) : Cv X T EX B' := ⟨C.calm, C.nd, C.pass, C.un, C.gd⟩
theorem end_non {T : Ct} (E : XK) (B : Hp × Hp) (Q : VK) (σ : L2.St) (H : Hp) (q : rdV T E B (vC .none) σ H Q) : (fun (_ : XK) (_ : Hp × Hp) (D : Ends) (σ : L2.St) (H : Hp) => D.nx σ H) E B { nx := fun _ H' => Q .non H', rt := Q } σ H := by
  obtain ⟨G, env, S, o⟩ := q
  exact o .non G H (Step.refl S.gh) .non
end VL
namespace VL
open PySem L2
/-! ### x, y, z = a list -/
@[simp] def tgL3 (i j k : Nat) : Tg := fun d env => match d with
  | .list [x, y, z] => some (((env.set i (some (.sh x))).set j (some (.sh y))).set k (some (.sh z)))
  | _ => none
theorem tr_L3 {T : Ct} {B : Hp × Hp} {K : PySem.W.Frag} {i j l : Nat} : TgRun T B (gLst K 3 (gCons (gName i) (gCons (gName j) (gCons (gName l) gNil)))) [i, j, l] (tgL3 i j l) := by
  intro G env σ H v d env' Q S dq e q
  unfold tgL3 at e
  split at e
  · cases e
    obtain ⟨l, xs, rfl, sq, q1⟩ := dq.lstInv
    obtain ⟨v1, vs1, rfl, d1, q2⟩ := q1.inv
    obtain ⟨v2, vs2, rfl, d2, q3⟩ := q2.inv
    obtain ⟨v3, vs3, rfl, d3, q4⟩ := q3.inv
    cases q4.inv0
    exact ⟨l, _, rfl, sqL_K (S.gh.seq sq), rfl, v1, _, rfl, v2, _, rfl, v3, _, rfl, rfl, q _ (((S.setSh d1).setSh d2).setSh d3) (SetIn.trans (is := [i, j]) (SetIn.trans (js := [j]) .one .one) .one)⟩
  · cases e
end VL
namespace VL
open PySem PySem.Spec PyProof.Rows L2
/-! ### a set whose items' hashes are all unlike: no item is ever compared -/
structure HSet (w : World) (h : Heap) (a : Addr) (rs : List (Int × Value)) (es : Array (Int × Value)) (ep : Nat) (t : SetTable) : Prop where
  ob : ∃ o, h.get? a = some o ∧ o.ExactSet ∧ o.data = .set es ep t
  eq : es.toList = rs
  tab : TabOk t (rs.map (·.1))
  nd : (rs.map (·.1)).Nodup
  plain : t.plain = true
  led : w.params.followText "set-order" = true ∨ t.led = true
  room : rs.length * 5 < t.mask * 3
  few : rs.length < 64
section
variable {P : Program} {w : World} {A : Around} {E : Value → Shared → Prop} {s : Shared} {a : Addr} {rs : List (Int × Value)} {es : Array (Int × Value)} {ep : Nat} {t : SetTable}
theorem HSet.size {h : Heap} (R : HSet w h a rs es ep t) : es.size = rs.length := by rw [← Array.length_toList, R.eq]
theorem HSet.fits {h : Heap} (R : HSet w h a rs es ep t) : t.fits es.size = true := by
  have h1 := R.tab.sz
  rw [List.length_map] at h1
  have h2 := R.size
  have h3 := R.room
  unfold SetTable.fits SetTable.fill
  rw [R.tab.dm, Bool.and_eq_true, beq_iff_eq, decide_eq_true_eq]
  show t.place.size = es.size ∧ t.place.size + 0 ≤ t.mask
  omega
theorem HSet.gw {h : Heap} (R : HSet w h a rs es ep t) : ¬ t.gaveWay = true := by
  unfold SetTable.gaveWay
  rw [mask_odd R.tab.mok]
  decide
theorem hset_search (R : HSet w s.heap a rs es ep t) {x : Addr} {h : Int} (hn : h ∉ rs.map (·.1)) {Q : SetFound → Shared → Prop}
    (out : ∀ K, way t.mask h K ∉ t.place.toList → (∀ c, c < K → way t.mask h c ∈ t.place.toList) → Q (.free (way t.mask h K) false) s) : wpAny (model P w) A (setSearch a (.ref x) h true) Q E s := by
  have hroom := R.room
  obtain ⟨K, hKf, hK, hKb⟩ := R.tab.first (by rw [List.length_map]; omega) h
  obtain ⟨o, ho, hex, hd⟩ := R.ob
  unfold setSearch
  rw [show (100000 : Nat) = 99999 + 1 from rfl, setSearchFrom_succ]
  refine wpAny_bind (wpAny_setState_of ho hd R.fits ?_)
  dsimp only
  refine wp_if_neg R.gw ?_
  try refine wpAny_bind (wpAny_pure ?_)
  have spec := go_spec t R.tab.ris R.tab.dm (fun i => (es[i]?.map (·.1)).getD 0) h (10 * SetTable.turns t.mask) K (runAt t.mask (SetTable.bits h % (t.mask + 1)) (SetTable.bits h)) rfl hKf hKb hK
  have noc : ∀ (i j : Nat), t.place.toList[i]? = some j → (es[i]?.map (·.1)).getD 0 ≠ h := fun i j hj e => by
    have hi : i < rs.length := by
      have h1 := (List.getElem?_eq_some_iff.mp hj).1
      have h2 := R.tab.sz
      rw [List.length_map] at h2
      rw [Array.length_toList] at h1
      omega
    have ent : es[i]? = some rs[i] := by rw [← Array.getElem?_toList, R.eq, List.getElem?_eq_getElem hi]
    rw [ent] at e
    exact hn (List.mem_map.mpr ⟨rs[i], List.getElem_mem hi, e⟩)
  rcases spec with ⟨q, i, hq, hi, hh, _, _⟩ | ⟨_, hpr⟩
  · exact absurd hh (noc i _ hi)
  · have hpr' : t.probe (fun i => (es[i]?.map (·.1)).getD 0) h ((none : Option SetTable.Probe).getD (t.probeStart h)) = some (.empty (way t.mask h K) none) := hpr
    rw [hpr']
    dsimp only
    exact wpAny_pure (out K hK hKb)
/-- rows in another order -/
theorem rows_order (es : Array (Int × Value)) (order : Array Nat) (hp : order.toList.Perm (List.range es.size)) : (order.filterMap (es[·]?)).toList.Perm es.toList ∧ (order.filterMap (es[·]?)).toList.map (·.1) = order.toList.map fun i => (es.map (·.1)).getD i 0 := by
  have e0 : (order.filterMap (es[·]?)).toList = order.toList.filterMap (es[·]?) := by first | (rw [Array.toList_filterMap]) | simp
  rw [e0]
  have bd : ∀ i ∈ order.toList, i < es.size := fun i m => List.mem_range.mp (hp.mem_iff.mp m)
  refine ⟨(hp.filterMap _).trans ?_, ?_⟩
  · have key : ∀ n, n ≤ es.size → (List.range n).filterMap (es[·]?) = es.toList.take n := by
      intro n
      induction n with
      | zero => intro _; rfl
      | succ n ih =>
        intro hn
        have hl : n < es.toList.length := by rw [Array.length_toList]; exact hn
        have en : es[n]? = some (es.toList[n]) := by rw [← Array.getElem?_toList, List.getElem?_eq_getElem hl]
        rw [List.range_succ, List.filterMap_append, ih (by omega), List.take_succ, List.getElem?_eq_getElem hl, List.filterMap_cons_some en]
        rfl
    rw [key es.size (Nat.le_refl _), ← Array.length_toList, List.take_length]
  · generalize order.toList = l at bd
    clear hp e0
    induction l with
    | nil => rfl
    | cons i l ih =>
      have hi := bd i List.mem_cons_self
      have en : es[i]? = some es[i] := Array.getElem?_eq_getElem hi
      rw [List.filterMap_cons_some en, List.map_cons, List.map_cons, ih fun j m => bd j (List.mem_cons_of_mem _ m)]
      congr 1
      have : (es.map (·.1))[i]? = some es[i].1 := by rw [Array.getElem?_map, en]; rfl
      simp [Array.getD_eq_getD_getElem?, this]
theorem hset_relay {o : Obj} (ho : s.heap.get? a = some o) (hex : o.ExactSet) (hd : o.data = .set es ep t) (hsz : t.place.size = es.size) (hdm : t.dummies = #[]) (hfl : es.size ≤ t.mask) (nd : (es.toList.map (·.1)).Nodup) (pl : t.plain = true) (ld : w.params.followText "set-order" = true ∨ t.led = true) (few : es.size < 64) {wanted M : Nat}
    (hw : SetTable.sizeAbove wanted - 1 = M) (hM : MaskOk M) (hw2 : SetTable.sizeAbove wanted ≤ 128) (hn : es.size * 5 < M * 3) {Q : Unit → Shared → Prop}
    (hQ : ∀ h' rs' es' ep' t', Heap.SameBut a s.heap h' → HSet w h' a rs' es' ep' t' → rs'.Perm es.toList → Q () { s with heap := h' }) : wpAny (model P w) A (setRelay a wanted) Q E s := by
  have hfits : t.fits es.size = true := by
    unfold SetTable.fits SetTable.fill
    rw [hdm, Bool.and_eq_true, beq_iff_eq, decide_eq_true_eq]
    show t.place.size = es.size ∧ t.place.size + 0 ≤ t.mask
    omega
  obtain ⟨t', order, e, hp, T, em, el, ep', ed⟩ := relaid_ok t (hs := es.map (·.1)) (wanted := wanted) hw hM (by rw [Array.size_map]; omega)
  rw [Array.size_map] at hp
  obtain ⟨r1, r2⟩ := rows_order es order hp
  rw [← r2] at T
  have hs2 : (order.filterMap (es[·]?)).size = es.size := by
    have h := r1.length_eq
    rw [Array.length_toList, Array.length_toList] at h
    exact h
  rw [setRelay_eq]
  refine wpAny_bind (wpAny_setState_of ho hd hfits ?_)
  dsimp only
  refine wp_if_neg (by rw [sizeLine_eq]; omega) ?_
  try refine wpAny_bind (wpAny_pure ?_)
  rw [e]
  dsimp only
  refine wpAny_bind ?_
  refine wp_if_neg (by rw [hs2]; simp) ?_
  try refine wpAny_bind (wpAny_pure ?_)
  refine wpAny_pure ?_
  dsimp only
  refine wpAny_storeSet_of ho hd ?_ (by rw [hs2, sizeLine_eq]; omega)
  have ln : (order.filterMap (es[·]?)).toList.length = es.size := by rw [Array.length_toList, hs2]
  refine hQ _ (order.filterMap (es[·]?)).toList (order.filterMap (es[·]?)) (ep + 1) t' (Heap.SameBut.update ..) ⟨⟨_, store_at ho hd, ⟨hex.1, hex.2.1, hex.2.2⟩, rfl⟩, rfl, T, (r1.map (·.1)).nodup_iff.mpr nd, by rw [ep']; exact pl, by rw [el]; exact ld, by rw [ln, em]; exact hn, by rw [ln]; exact few⟩ r1
theorem hset_add (R : HSet w s.heap a rs es ep t) {x : Addr} {h : Int} (hn : h ∉ rs.map (·.1)) (hfew : rs.length + 1 < 64) (hb : ∀ (A : Around) (E : Value → Shared → Prop) (Q : Bool → Shared → Prop), Q true s → wpAny (model P w) A (hashByValue 8 (.ref x)) Q E s) {Q : Bool → Shared → Prop}
    (hQ : ∀ b h' rs' es' ep' t', Heap.SameBut a s.heap h' → HSet w h' a rs' es' ep' t' → rs'.Perm ((h, .ref x) :: rs) → Q b { s with heap := h' }) : wpAny (model P w) A (setAddHashed a (.ref x) h) Q E s := by
  obtain ⟨o, ho, hex, hd⟩ := R.ob
  have hsl := R.size
  have hroom := R.room
  unfold setAddHashed
  refine wpAny_holding ?_
  rw [show (100000 : Nat) = 99999 + 1 from rfl, setAddHashedIn_succ]
  refine wpAny_bind (wpAny_setState_of ho hd R.fits ?_)
  dsimp only
  refine wp_if_neg (by simp [byScan, Value.scannable]) ?_
  try refine wpAny_bind (wpAny_pure ?_)
  refine wpAny_bind (hset_search R hn fun K hK hkb => ?_)
  dsimp only
  refine wpAny_bind (wpAny_setState_of ho hd R.fits ?_)
  dsimp only
  obtain ⟨q1, q2, q3, q4, q5, q6, q7, q8, q9⟩ := R.tab.put hK hkb
  have hp1 : (t.put (way t.mask h K)).1.plain = true := by rw [q6]; exact R.plain
  generalize hpt : t.put (way t.mask h K) = pt at q1 q3 q4 q5 q6 q7 q8 q9 hp1 ⊢
  obtain ⟨t1, p⟩ := pt
  dsimp only at q1 q3 q4 q5 q6 q7 q8 q9 hp1 ⊢
  subst q1
  first
    | (refine wpAny_bind ?_; refine wp_if_pos hp1 ?_; refine hb _ _ _ ?_)
    | refine wp_if_pos hp1 (wpAny_bind (hb _ _ _ ?_))
  simp only [if_true]
  generalize hpp : SetTable.below t.place (way t.mask h K) = p at q2 q3 ⊢
  have hin : (SetTable.insertAt es p (h, Value.ref x)).toList = rs.take p ++ (h, Value.ref x) :: rs.drop p := by rw [SetTable.toList_insertAt, R.eq]
  have pm : (rs.take p ++ (h, Value.ref x) :: rs.drop p).Perm ((h, Value.ref x) :: rs) := put_perm rs p (h, Value.ref x)
  have hmp : (rs.take p ++ (h, Value.ref x) :: rs.drop p).map (·.1) = (rs.map (·.1)).take p ++ h :: (rs.map (·.1)).drop p := by rw [List.map_append, List.map_cons, List.map_take, List.map_drop]
  rw [← hmp] at q3
  have hlen : (rs.take p ++ (h, Value.ref x) :: rs.drop p).length = rs.length + 1 := pm.length_eq
  have nd1 : ((rs.take p ++ (h, Value.ref x) :: rs.drop p).map (·.1)).Nodup := (pm.map (·.1)).nodup_iff.mpr (by rw [List.map_cons]; exact List.nodup_cons.mpr ⟨hn, R.nd⟩)
  generalize SetTable.insertAt es p (h, Value.ref x) = es1 at hin ⊢
  generalize rs.take p ++ (h, Value.ref x) :: rs.drop p = L1 at pm hlen q3 nd1 hin
  have hes : es1.size = rs.length + 1 := by rw [← Array.length_toList, hin, hlen]
  refine wpAny_bind (wpAny_storeSet_of ho hd ?_ (by rw [hes, sizeLine_eq]; omega))
  have sb : Heap.SameBut a s.heap (s.heap.update a (Obj.putSet es1 t1)) := Heap.SameBut.update ..
  have ho1 := store_at (es' := es1) (t' := t1) ho hd
  generalize s.heap.update a (Obj.putSet es1 t1) = h1 at sb ho1 ⊢
  have ld1 : w.params.followText "set-order" = true ∨ t1.led = true := by rw [q5]; exact R.led
  by_cases hf : t1.tooFull = true
  · first
      | (refine wpAny_bind ?_; refine wp_if_pos (by simp [hf]) ?_)
      | (refine wp_if_pos (by simp [hf]) ?_; refine wpAny_bind ?_)
    have hfull : (rs.length + 1) * 5 ≥ t1.mask * 3 := by
      have h := hf
      unfold SetTable.tooFull at h
      rw [decide_eq_true_eq, q9, List.length_map] at h
      exact h
    rw [hsl]
    have hsz1 : t1.place.size = es1.size := by
      have h := q3.sz
      rw [List.length_map, hlen] at h
      rw [h, hes]
    have two : (t.mask = 7 ∧ rs.length = 4) ∨ (t.mask = 31 ∧ rs.length = 18) := by
      rcases R.tab.mok with e | e | e
      · left; rw [q4, e] at hfull; rw [e] at hroom; exact ⟨e, by omega⟩
      · right; rw [q4, e] at hfull; rw [e] at hroom; exact ⟨e, by omega⟩
      · exfalso; rw [q4, e] at hfull; omega
    have go : ∀ M, SetTable.sizeAbove (SetTable.grown (rs.length + 1)) - 1 = M → MaskOk M → SetTable.sizeAbove (SetTable.grown (rs.length + 1)) ≤ 128 → (rs.length + 1) * 5 < M * 3 →
        wpAny (model P w) A (setRelay a (SetTable.grown (rs.length + 1))) (fun _ s' => wpAny (model P w) A (pure true) Q E s') E { s with heap := h1 } := fun M z1 z2 z3 z4 =>
      hset_relay (s := { s with heap := h1 }) ho1 ⟨hex.1, hex.2.1, hex.2.2⟩ rfl hsz1 q3.dm (by rw [hes, q4]; rcases two with ⟨e, e2⟩ | ⟨e, e2⟩ <;> omega) (by rw [hin]; exact nd1) hp1 ld1 (by rw [hes]; exact hfew) z1 z2 z3 (by rw [hes]; exact z4) fun h2 rs2 es2 ep2 t2 sb2 R2 pm2 => wpAny_pure (hQ true h2 rs2 es2 ep2 t2 (sb.trans sb2) R2 (pm2.trans (by rw [hin]; exact pm)))
    rcases two with ⟨_, e2⟩ | ⟨_, e2⟩
    · exact go 31 (by rw [e2, size_20]) (.inr (.inl rfl)) (by rw [e2, size_20]; decide) (by omega)
    · exact go 127 (by rw [e2, size_76]) (.inr (.inr rfl)) (by rw [e2, size_76]; decide) (by omega)
  · first
      | refine wp_if_neg (by simp [hf]) ?_
      | (refine wpAny_bind ?_; refine wp_if_neg (by simp [hf]) ?_; refine wpAny_pure ?_)
    refine wpAny_pure (hQ true h1 L1 es1 (ep + 1) t1 sb ⟨⟨_, ho1, ⟨hex.1, hex.2.1, hex.2.2⟩, rfl⟩, hin, q3, nd1, hp1, ld1, ?_, by rw [hlen]; exact hfew⟩ pm)
    have h := hf
    unfold SetTable.tooFull at h
    rw [decide_eq_true_eq, q9, List.length_map] at h
    rw [hlen]
    omega
end
end VL
namespace VL
open PySem PySem.Spec PyProof.Rows L2
mutual
/-- tuples of ints and of such tuples -/
inductive TI (h : Heap) : NestedKey → Value → Prop
  | int (i t) : TI h (.num i) (.int i t)
  | tup {a o vs n ks} : h.get? a = some o → o.cls = .type "tuple" → o.data = .seq vs n → TIs h ks vs.toList → TI h (.tup ks) (.ref a)
inductive TIs (h : Heap) : List NestedKey → List Value → Prop
  | nil : TIs h [] []
  | cons {k v ks vs} : TI h k v → TIs h ks vs → TIs h (k :: ks) (v :: vs)
end
mutual
theorem TI.nested {h : Heap} : ∀ (k : NestedKey) (v : Value), TI h k v → NestedIs h k v
  | .num i, _, .int _ t => .int i t
  | .tup ks, _, .tup a b c d => .tup a b c (TIs.nested ks _ d)
theorem TIs.nested {h : Heap} : ∀ (ks : List NestedKey) (vs : List Value), TIs h ks vs → NestedAll h ks vs
  | [], _, .nil => .nil
  | k :: ks, _, .cons a b => .cons (TI.nested k _ a) (TIs.nested ks _ b)
end
mutual
theorem TI.keep {h h' : Heap} (e : ∀ b o, h.get? b = some o → h'.get? b = some o) : ∀ (k : NestedKey) (v : Value), TI h k v → TI h' k v
  | .num i, _, .int _ t => .int i t
  | .tup ks, _, .tup a b c d => .tup (e _ _ a) b c (TIs.keep e ks _ d)
theorem TIs.keep {h h' : Heap} (e : ∀ b o, h.get? b = some o → h'.get? b = some o) : ∀ (ks : List NestedKey) (vs : List Value), TIs h ks vs → TIs h' ks vs
  | [], _, .nil => .nil
  | k :: ks, _, .cons a b => .cons (TI.keep e k _ a) (TIs.keep e ks _ b)
end
section
variable {P : Program} {w : World}
theorem hashBy_tup1 {b : Addr} {o : Obj} {items : Array Value} {nn n : Nat} {A : Around} {E : Value → Shared → Prop} {s : Shared} {Q : Bool → Shared → Prop} (ho : s.heap.get? b = some o) (hc : o.cls = .type "tuple") (hd : o.data = .seq items nn)
    (hall : ∀ v ∈ items.toList, ∀ (A : Around) (E : Value → Shared → Prop) (Q : Bool → Shared → Prop), Q true s → wpAny (model P w) A (hashByValue n v) Q E s) (q : Q true s) : wpAny (model P w) A (hashByValue (n + 1) (.ref b)) Q E s := by
  have hT : s.TypeIs (.ref b) "tuple" := ⟨o, ho, hc⟩
  unfold hashByValue
  refine wpAny_bind (wpAny_specialOf hT F.slot_tuple_hash.lookup ?_)
  show wpAny _ _ (seqItems? (.ref b) >>= _) _ _ s
  refine wpAny_bind (wpAny_seqItems ho hd ?_)
  refine wpAny_bind ?_
  show wpAny _ _ (forIn items _ _) _ _ s
  rw [← Array.forIn_toList]
  refine wpAny_forIn_list _ (fun rest r s' => r.1 = none ∧ s' = s ∧ ∀ v ∈ rest, ∀ (A : Around) (E : Value → Shared → Prop) (Q : Bool → Shared → Prop), Q true s → wpAny (model P w) A (hashByValue n v) Q E s) _ ?_ ?_ _ _ ⟨rfl, rfl, hall⟩
  · rintro v rest r s' ⟨hr, rfl, hall⟩
    refine wpAny_bind (hall v List.mem_cons_self _ _ _ ?_)
    simp only [Bool.not_true, Bool.false_eq_true, if_false]
    exact wpAny_pure ⟨rfl, rfl, fun u hu' => hall u (List.mem_cons_of_mem _ hu')⟩
  · rintro ⟨r1, r2⟩ s' ⟨hr, rfl, _⟩
    simp only at hr
    subst hr
    exact wpAny_pure q
def HBy (P : Program) (w : World) (n : Nat) (s : Shared) (v : Value) : Prop := ∀ (A : Around) (E : Value → Shared → Prop) (Q : Bool → Shared → Prop), Q true s → wpAny (model P w) A (hashByValue n v) Q E s
theorem hby_int {n : Nat} {s : Shared} {i : Int} {t : Tok} : HBy P w n s (.int i t) := fun A E Q q => by
  rw [hashBy_int]
  exact wpAny_pure q
theorem hby_tup {n : Nat} {s : Shared} {b : Addr} {o : Obj} {items : Array Value} {nn : Nat} (ho : s.heap.get? b = some o) (hc : o.cls = .type "tuple") (hd : o.data = .seq items nn) (hall : ∀ v ∈ items.toList, HBy P w n s v) : HBy P w (n + 1) s (.ref b) := fun A E Q q => hashBy_tup1 ho hc hd (fun v m => hall v m) q
mutual
theorem hashBy_ti : ∀ (k : NestedKey) (v : Value) (n : Nat) (s : Shared), TI s.heap k v → k.depth ≤ n → HBy P w n s v
  | .none, _, n, s, x, hn => by cases x
  | .text y, _, n, s, x, hn => by cases x
  | .num i, _, n, s, x, hn => by cases x; exact hby_int
  | .tup ks, _, n, s, x, hn => by
    cases x with
    | tup ho hc hd hi =>
      simp only [NestedKey.depth] at hn
      cases n with
      | zero => omega
      | succ n => exact hby_tup ho hc hd (hashBys_ti ks _ n s hi (by omega))
theorem hashBys_ti : ∀ (ks : List NestedKey) (vs : List Value) (n : Nat) (s : Shared), TIs s.heap ks vs → NestedKey.depthAll ks ≤ n → ∀ v ∈ vs, HBy P w n s v
  | [], _, n, s, x, _, v, m => by cases x; cases m
  | k :: ks, _, n, s, x, hn, v, m => by
    cases x with
    | cons a b =>
      simp only [NestedKey.depthAll] at hn
      rcases List.mem_cons.mp m with e | m
      · rw [e]; exact hashBy_ti k _ n s a (by omega)
      · exact hashBys_ti ks _ n s b (by omega) v m
end
variable {A : Around} {E : Value → Shared → Prop} {s : Shared}
/-- the loop of set.update over such tuples, their hashes unlike -/
theorem hset_loop {I : Addr} {fp wr : List Addr} {G : Array GenState → Array GenState → Prop} {n : Nat} {Pv : Nat → Value → Prop} {St : Nat → Shared → Prop} {R : Result → Shared → Prop}
    (W : WalksS P w A.in1 I fp wr G n Pv St) (S : Addr) (hSf : S ∉ fp) (ks : List (Addr × NestedKey)) (hn : n = ks.length) (hfew : ks.length < 64) (hval : ∀ i v, Pv i v → ∃ p, ks[i]? = some p ∧ v = .ref p.1)
    (h0 : Heap) (hk : ∀ p ∈ ks, TI h0 p.2 (.ref p.1) ∧ p.2.depth ≤ 8) (nd : (ks.map fun p => p.2.hash w).Nodup) (hS0 : h0.get? S = none) (hw0 : ∀ b ∈ wr, h0.get? b = none) (hu : A.in1.units + 8 < cLine) :
    ∀ (k i : Nat) (s : Shared), n - i = k → i ≤ n → St i s → (∀ b o, h0.get? b = some o → s.heap.get? b = some o) → (∃ rs es ep t, HSet w s.heap S rs es ep t ∧ (rs.map (·.1)).Perm ((ks.take i).map fun p => p.2.hash w)) →
      (∀ s' rs es ep t, Moved (S :: wr) G s s' → HSet w s'.heap S rs es ep t → (rs.map (·.1)).Perm (ks.map fun p => p.2.hash w) → (∀ b o, h0.get? b = some o → s'.heap.get? b = some o) → R (.ok (.ret .none)) s') →
      codeAny (model P w) A (.builtin "set.update.loop" ⟨[.ref S, .ref I], []⟩) R s := by
  have hSw : S ∉ wr := fun h => hSf (W.sub _ h)
  have hsub : ∀ b ∈ wr, b ∈ S :: wr := fun b hb => List.mem_cons_of_mem _ hb
  have keepM : ∀ {s s' : Shared}, Moved wr G s s' → (∀ b o, h0.get? b = some o → s.heap.get? b = some o) → ∀ b o, h0.get? b = some o → s'.heap.get? b = some o := fun hm hkp b o e =>
    hm.heap b o (fun hb => by rw [hw0 b hb] at e; cases e) (hkp b o e)
  have keepS : ∀ {s s' : Shared} {rs es ep t}, Moved wr G s s' → HSet w s.heap S rs es ep t → HSet w s'.heap S rs es ep t := fun hm R => by
    obtain ⟨o, ho, r⟩ := R.ob
    exact ⟨⟨o, hm.heap S o hSw ho, r⟩, R.eq, R.tab, R.nd, R.plain, R.led, R.room, R.few⟩
  intro k
  induction k with
  | zero =>
    intro i s hk' hi hst hkp ⟨rs, es, ep, t, hS, g⟩ hR
    have hin : i = n := by omega
    subst hin
    refine codeAny_builtin F.entry_set_update_loop ?_
    rw [Around.under_plainId F.plain_set_update_loop _]
    show wpAny _ A.in1 (pyNext (.ref I) >>= _) _ _ s
    refine wpAny_bind (W.done s _ _ hst fun s' hm => ?_)
    show wpAny _ A.in1 (ret Value.none) _ _ s'
    rw [hn, List.take_length] at g
    exact wpAny_pure (hR s' rs es ep t (hm.mono hsub) (keepS hm hS) g (keepM hm hkp))
  | succ k ih =>
    intro i s hk' hi hst hkp ⟨rs, es, ep, t, hS, g⟩ hR
    have hlt : i < n := by omega
    refine codeAny_builtin F.entry_set_update_loop ?_
    rw [Around.under_plainId F.plain_set_update_loop _]
    show wpAny _ A.in1 (pyNext (.ref I) >>= _) _ _ s
    refine wpAny_bind (W.item i s _ _ hlt hst fun v s' hP hst' hm => ?_)
    obtain ⟨p, hp, rfl⟩ := hval i v hP
    have hkp' := keepM hm hkp
    have hS' := keepS hm hS
    obtain ⟨ti, dp⟩ := hk p (List.mem_of_getElem? hp)
    have ti' := TI.keep hkp' _ _ ti
    have tk : (ks.take (i + 1)).map (fun p => p.2.hash w) = (ks.take i).map (fun p => p.2.hash w) ++ [p.2.hash w] := by
      rw [List.take_succ, hp, List.map_append]; rfl
    have hnot : p.2.hash w ∉ rs.map (·.1) := fun m => by
      have m2 := g.mem_iff.mp m
      have nd2 : ((ks.take (i + 1)).map fun p => p.2.hash w).Nodup := by
        rw [List.map_take]
        exact nd.sublist (List.take_sublist _ _)
      rw [tk] at nd2
      exact (List.nodup_append.mp nd2).2.2 _ m2 _ (List.mem_singleton.mpr rfl) rfl
    have rl : rs.length ≤ i := by
      have := g.length_eq
      rw [List.length_map, List.length_map, List.length_take] at this
      omega
    show wpAny _ A.in1 (holding [Value.ref p.1] (setAdd S (.ref p.1)) >>= _) _ _ s'
    refine wpAny_bind (wpAny_holding ?_)
    unfold setAdd
    refine wpAny_holding ?_
    refine wpAny_bind (pyHash_key p.2 _ _ s' _ (TI.nested _ _ ti') (by omega) ?_)
    refine hset_add (s := { s' with toks := s'.toks + p.2.draws }) hS' hnot (by omega) (hashBy_ti p.2 _ 8 _ ti' dp) fun b h' rs' es' ep' t' hsb hS2 pm => ?_
    have hkp2 : ∀ b o, h0.get? b = some o → h'.get? b = some o := fun b o e => (hsb.2 b (fun z => by rw [z, hS0] at e; cases e)).trans (hkp' b o e)
    have g' : (rs'.map (·.1)).Perm ((ks.take (i + 1)).map fun p => p.2.hash w) := by
      rw [tk]
      have pm2 : (rs'.map (·.1)).Perm (p.2.hash w :: rs.map (·.1)) := pm.map (·.1)
      exact pm2.trans ((List.Perm.cons _ g).trans (List.perm_append_comm (l₁ := [p.2.hash w])))
    refine wpAny_pure ⟨plainId_quiet F.plain_set_update_loop _, ih (i + 1) _ (by omega) hlt (W.frame _ s' _ _ hst' (Nat.le_add_right _ _) fun b hb o e => ?_) hkp2 ⟨rs', es', ep', t', hS2, g'⟩ fun s'' rs2 es2 ep2 t2 hm'' hS'' g'' hkp'' => ?_⟩
    · rw [hsb.2 b (fun h : b = S => hSf (by rw [← h]; exact hb))]; exact e
    · refine hR s'' rs2 es2 ep2 t2 (Moved.trans W.gtrans ((hm.mono hsub).then_heap (Nat.le_add_right _ _) fun b o hb e => ?_) hm'') hS'' g'' hkp''
      rw [hsb.2 b (fun h : b = S => hb (by rw [h]; exact List.mem_cons_self))]; exact e
end
end VL
namespace VL
open PySem PySem.Spec PyProof.Rows L2
section
variable {P : Program} {w : World} {A : Around} {E : Value → Shared → Prop} {s : Shared}
abbrev newSet (w : World) : Obj := { cls := .type "set", dict := none, data := .set #[] 0 (.fresh 0 0 (!w.params.followText "set-order")) }
theorem hset_new {h : Heap} {a : Addr} (ho : h.get? a = some (newSet w)) : HSet w h a [] #[] 0 (.fresh 0 0 (!w.params.followText "set-order")) where
  ob := ⟨_, ho, ⟨rfl, rfl, rfl⟩, rfl⟩
  eq := rfl
  tab := ⟨List.Pairwise.nil, rfl, rfl, .inl rfl, fun x hx => (by cases hx), fun i h j hi => (by simp at hi)⟩
  nd := List.nodup_nil
  plain := rfl
  led := by
    show _ ∨ (!w.params.followText "set-order") = true
    cases w.params.followText "set-order"
    · exact .inr rfl
    · exact .inl rfl
  room := by show 0 * 5 < 7 * 3; decide
  few := by show 0 < 64; decide
/-- set(xs), xs a list of tuples of ints and of such tuples, their hashes unlike -/
theorem call_set_ti {l : Addr} {items : Array Value} (ks : List (Addr × NestedKey)) {Q : Value → Shared → Prop} (hh : A.handled = none) (hl : s.heap.IsList l items) (hit : items.toList = ks.map fun p => Value.ref p.1)
    (hk : ∀ p ∈ ks, TI s.heap p.2 (.ref p.1) ∧ p.2.depth ≤ 8) (nd : (ks.map fun p => p.2.hash w).Nodup) (hfew : ks.length < 64) (hu : A.units + 20 < cLine)
    (h : ∀ (h' : Heap) (tk : Nat) rs es ep t, HSet w h' s.heap.objs.size rs es ep t → rs.length = ks.length → (∀ b o, s.heap.get? b = some o → h'.get? b = some o) → Q (.ref s.heap.objs.size) { s with heap := h', toks := tk }) :
    wpAny (model P w) A (call (.type "set") [.ref l]) Q E s := by
  have hisz : items.size = ks.length := by
    have q := congrArg List.length hit
    rw [Array.length_toList, List.length_map] at q
    exact q
  obtain ⟨c, tl, hmro⟩ := F.called_set.mro
  have hmade := F.called_set.made
  have hsub := F.called_set.sub
  refine wpAny_call (codeAny_of_tree ?_)
  show wpAny _ _ (callAny (.type "set") _) _ _ _
  refine wpAny_pure ⟨Code.quiet_builtin _ (by decide +kernel), codeAny_builtin F.entry_type_call ?_⟩
  rw [Around.under_plain (weight_type_call_type "set" [.ref l] []) rfl]
  have h1 := F.called_set.notType
  have h2 := F.called_set.canCreate
  have hct := F.typeCall_set_1 (.ref l)
  repeat (any_goals (first | assumption | wp_step))
  refine codeAny_mono (code_set_led1 (.ref l) (E := E) (Q₁ := fun obj s₁ => obj = .ref s.heap.objs.size ∧ s₁ = { s with heap := s.heap.push (newSet w) }) ⟨rfl, rfl⟩) fun r s₁ hr => ?_
  cases r with
  | error e => exact hr
  | ok fl =>
    cases fl with
    | ret obj =>
      obtain ⟨rfl, rfl⟩ := hr
      have hS : (s.heap.push (newSet w)).get? s.heap.objs.size = some (newSet w) := Heap.get?_push_size _ rfl
      have hT : Shared.TypeIs { s with heap := s.heap.push (newSet w) } (.ref s.heap.objs.size) "set" := ⟨_, hS, rfl⟩
      have hli := F.called_set.init.lookup
      have hbi := F.called_set.init.bind (.ref s.heap.objs.size)
      repeat (any_goals (first | assumption | wp_step))
      refine codeAny_mono (codeAny_call_builtin (R := wants (fun r s₂ => r = .none ∧ ∃ h' tk rs es ep t, s₂ = { s with heap := h', toks := tk } ∧ HSet w h' s.heap.objs.size rs es ep t ∧ rs.length = ks.length ∧
          (∀ b o, s.heap.get? b = some o → h'.get? b = some o)) E) F.called_set.init.plain F.entry_set_init (check_set_init_1 hT ?_)) fun r₂ s₂ hr₂ => ?_
      · obtain ⟨ol, hol, hcl, nl, hdl⟩ := hl
        obtain ⟨ocls, odict, odata, oslots⟩ := ol
        simp only at hcl hdl
        subst hcl; subst hdl
        have hol' : (s.heap.push (newSet w)).get? l = some { cls := .type "list", dict := odict, data := .seq items nl, slots := oslots } := Heap.get?_push_of_some _ hol
        have hsls := F.sub_list_set
        have hslf := F.sub_list_frozenset
        have hne : (Value.type "list" == Value.type "dict") = false := by decide
        have hl1 : (s.heap.push (newSet w)).IsList l items := ⟨_, hol', rfl, nl, rfl⟩
        unfold Builtin.«set.__init__» noKeywords Builtin.Frozenset.updateFrom
        generalize hPI : pyIter = PI
        wp_walk
        subst hPI
        refine wpAny_pyIter_list hl1 ?_
        refine wpAny_bind (wpAny_runValue ?_)
        have hlS : l < s.heap.objs.size := Heap.lt_size hol
        have hh3 : A.in1.in1.in1.handled = none := by simp [hh]
        have hneI : l ≠ (s.heap.push (newSet w)).objs.size := by
          rw [Heap.size_push]; exact Nat.ne_of_lt (Nat.lt_succ_of_lt hlS)
        have hSf : s.heap.objs.size ∉ [(s.heap.push (newSet w)).objs.size, l] := by
          rw [Heap.size_push]; simp only [List.mem_cons, List.mem_singleton, List.not_mem_nil, or_false, not_or]
          exact ⟨Nat.ne_of_lt (Nat.lt_succ_self _), Nat.ne_of_gt hlS⟩
        have hval : ∀ (i : Nat) (v : Value), items[i]? = some v → ∃ p, ks[i]? = some p ∧ v = .ref p.1 := fun i v hv => by
          have q : items.toList[i]? = some v := by rw [Array.getElem?_toList]; exact hv
          rw [hit, List.getElem?_map] at q
          obtain ⟨p, q1, q2⟩ := Option.map_eq_some_iff.mp q
          exact ⟨p, q1, q2.symm⟩
        have none_of : ∀ b, s.heap.objs.size ≤ b → s.heap.get? b = none := fun b hb => by
          cases q : s.heap.get? b with
          | none => rfl
          | some o => exact absurd (Nat.lt_of_lt_of_le (Heap.lt_size q) hb) (Nat.lt_irrefl _)
        refine hset_loop ((Walks.list hh3 _ l hneI items).toS) s.heap.objs.size
          hSf ks hisz hfew hval s.heap hk nd (none_of _ (Nat.le_refl _)) (fun b hb => none_of b (by
            rw [List.mem_singleton.mp hb, Heap.size_push]
            exact Nat.le_succ _)) (by show A.units + 1 + 1 + 1 + 8 < cLine; omega) (items.size - 0) 0 _ (by omega) (Nat.zero_le _)
          ⟨⟨_, Heap.get?_push_size _ rfl, rfl, rfl⟩, (hl1.push _)⟩ (fun b o e => Heap.get?_push_of_some _ (Heap.get?_push_of_some _ e)) ?hS0 ?hR
        case hS0 => exact ⟨[], #[], 0, _, hset_new (Heap.get?_push_of_some _ hS), .refl _⟩
        case hR =>
          intro s' rs es ep t hm hS' g' hkp
          obtain ⟨h', g2, d', tk', os'⟩ := s'
          have eg : g2 = s.gens := hm.gens
          have ed : d' = s.drawn := hm.drawn
          have eo : os' = s.os := hm.os
          subst eg; subst ed; subst eo
          show wpAny _ _ _ _ _ _
          refine wpAny_pure ?_
          show wpAny _ _ (ret Value.none) _ _ _
          have gl := g'.length_eq
          rw [List.length_map, List.length_map] at gl
          exact wpAny_pure ⟨rfl, h', tk', rs, es, ep, t, rfl, hS', gl, hkp⟩
      · cases r₂ with
        | error e => exact hr₂
        | ok fl₂ =>
          cases fl₂ with
          | ret r =>
            obtain ⟨rfl, h', tk, rs, es, ep, t, rfl, hS', g', hk'⟩ := hr₂
            repeat (any_goals (first | assumption | wp_step))
            exact h _ _ _ _ _ _ hS' g' hk'
          | _ => exact hr₂.elim
    | _ => exact hr.elim
end
end VL
namespace VL
open PySem PySem.Spec PyProof.Rows L2
/-! ### x[a:] = ys -/
section
variable {prog : Program} {w : World} {A : Around} {E : Value → Shared → Prop} {s : Shared}
theorem tail_bounds {a n : Nat} (h : a ≤ n) : sliceBounds (some (a : Int)) none none n = ((a : Int), (n : Int), 1) := by
  simp only [sliceBounds, Option.getD_none]
  have h1 : ¬ ((a : Int) < 0) := by omega
  simp only [h1, if_false, show (1 : Int) > 0 by decide, if_true]
  congr 1
  omega
theorem setItem_tail {l b sl : Addr} {items new : Array Value} {n n2 : Nat} {vl : Value} {a : Nat} {Q : Unit → Shared → Prop}
    (e : s.heap.get? l = some { cls := .type "list", data := .seq items n }) (e2 : s.heap.get? b = some { cls := .type "list", data := .seq new n2 }) (hne : l ≠ b)
    (hs : s.heap.IsSliceOf sl vl .none .none) (pl : IsPart vl (some (a : Int))) (ha : a ≤ items.size)
    (hsz : items.size + new.size ≤ sizeLine) (h : Q () { s with heap := s.heap.update l (Obj.mapSeq fun xs => xs.extract 0 a ++ new ++ xs.extract items.size xs.size) }) :
    wpAny (model prog w) A (setItem (.ref l) (.ref sl) (.ref b)) Q E s := by
  have hl : s.heap.IsList l items := PySem.IsL.isList e
  have hb : s.heap.IsList b new := PySem.IsL.isList e2
  obtain ⟨os, hos, hcs, hds⟩ := id hs
  have hTs : s.TypeIs (.ref sl) "slice" := ⟨os, hos, hcs⟩
  have hstep : ¬ ((rawPart none == rawInt 0) = true) := Bool.false_ne_true
  have hsame : Builtin.List.listSameRef (.ref l) (.ref b) = false := by
    unfold Builtin.List.listSameRef
    exact beq_eq_false_iff_ne.mpr hne
  have hmax : (max (a : Int) (items.size : Int)).toNat = items.size := by omega
  have hz' : ((fun xs : Array Value => xs.extract 0 a ++ new ++ xs.extract items.size xs.size) items).size ≤ sizeLine + 1 := by
    simp only [Array.size_append, Array.size_extract]
    omega
  unfold setItem
  try with_reducible refine wpAny_holding ?_
  first | refine wpAny_bind (wpAny_pure ?_) | skip
  refine wpAny_bind (wpAny_sequenceKey hl.typeIs (by decide) ?_)
  refine wpAny_bind (wpAny_callSpecial?_slot (name := Str.ofString "__setitem__") hl.typeIs slot_list_setitem
    (wpAny_call_entry slot_list_setitem hl.typeIs entry_list_setitem ?_ (args_list_setitem _ _ _)))
  show wpAny _ _ (Builtin.List.listSubscript? (.ref sl) >>= _) _ _ s
  refine wpAny_bind ?_
  unfold Builtin.List.listSubscript?
  refine wpAny_bind (wpAny_specialOf hTs slice_no_index ?_)
  simp only [Option.isNone_none, if_true]
  refine wpAny_pure ?_
  show wpAny _ _ (typeOf (.ref sl) >>= _) _ _ s
  refine wpAny_bind (wpAny_typeOf hTs ?_)
  first
    | rw [if_neg (by decide)]
    | refine PySem.W.KFB.if_not (by decide) ?_
  rw [listSliceParts_eq]
  refine wpAny_bind (wpAny_bind (wpAny_field hos hds (x := .none) rfl (wpAny_bind (wpAny_listPart .none ?_))))
  rw [if_neg hstep]
  refine wpAny_bind (wpAny_field hos hds (x := vl) rfl (wpAny_bind (wpAny_listPart pl ?_)))
  refine wpAny_bind (wpAny_field hos hds (x := .none) rfl (wpAny_bind (wpAny_listPart .none (wpAny_pure ?_))))
  first
    | simp only [hsame, Bool.false_eq_true, if_false]
    | refine PySem.W.KFB.if_not hsame ?_
    | (dsimp only
       rw [if_neg (by rw [hsame]; exact Bool.false_ne_true)])
  refine wpAny_bind (m := Builtin.List.listAllItems (.ref b) "must assign iterable to extended slice") ?_
  unfold Builtin.List.listAllItems
  refine wpAny_bind (wpAny_typeOf hb.typeIs ?_)
  first
    | refine PySem.W.KFB.if_so (by decide) ?_
    | rw [if_pos (by decide)]
    | simp only [beq_self_eq_true, Bool.true_or, if_true]
  unfold Builtin.List.listItems
  refine wpAny_bind (wpAny_seqItems e2 rfl (wpAny_pure ?_))
  refine wpAny_bind (wpAny_bind (wpAny_seqItems e rfl (wpAny_pure ?_)))
  refine wpAny_bind (wpAny_of_eq ((sliceIndices_raw (some (a : Int)) none none items.size (by simp)).trans (congrArg (pure : Int × Int × Int → Sem (Int × Int × Int)) (tail_bounds ha))) ?_)
  show wpAny _ _ (if ((1 : Int) == 1) = true then _ else _) _ _ s
  rw [if_pos (by decide)]
  refine wpAny_bind (wpAny_rule ?_)
  first
    | simp only [notLongL hsz, Bool.false_eq_true, if_false]
    | refine PySem.W.KFB.if_not (notLongL hsz) ?_
  first | refine wpAny_bind (wpAny_pure ?_) | skip
  show wpAny _ _ (updateSeq l (fun xs => xs.extract 0 ((a : Int)).toNat ++ new ++ xs.extract (max (a : Int) (items.size : Int)).toNat xs.size) >>= _) _ _ s
  rw [hmax, Int.toNat_natCast]
  refine wpAny_bind (wpAny_updateSeq (hz := Nat.le_trans (Nat.le_add_right _ _) hsz) (_hz' := hz') e rfl ?_)
  refine wpAny_bind (wpAny_letGo ?_)
  first
    | exact wpAny_bind (wpAny_pure (wpAny_pure ⟨.none, rfl, wpAny_pure h⟩))
    | exact wpAny_pure ⟨.none, rfl, wpAny_pure h⟩
end
def gCut (to tl : TE) : TG := fun v σ H Q => to σ H fun o H1 => tl σ H1 fun i H2 => ∃ l xs a b ys, o = .ref l ∧ i = .int a ∧ v = .ref b ∧ H2 l = some (.lst xs) ∧ H2 b = some (.lst ys) ∧ l ≠ b ∧ 0 ≤ a ∧ a ≤ xs.length ∧ xs.length + ys.length ≤ sizeLine ∧ Q σ (upd H2 l (.lst (xs.take a.toNat ++ ys)))
theorem pg_cut {X : Cx} {o e : Expr} {to tl : TE} {p2 pos : Pos} (ho : PE X o to) (hl : PE X e tl)
    (ha : ∀ v, assign (.Subscript o (.Slice (some e) none none p2) pos) X.env v = (do
      let ov ← holding [v] (eval o X.env)
      let iv ← holding [v, ov] (eval (.Slice (some e) none none p2) X.env)
      standAt pos
      holding [v, ov, iv] (setItem ov iv v)
      release [iv, v, ov] []) := by intro _; rfl) : PG X (.Subscript o (.Slice (some e) none none p2) pos) (gCut to tl) := by
  refine ⟨fun pins s σ H v u Q I r h => ?_⟩
  rw [ha]
  refine wpAny_bind (wpAny_holding (thn (ho.run pins s σ H _ I h) fun ov s1 ⟨x, H1, I1, r1, q1⟩ => ?_))
  refine wpAny_bind (wpAny_holding (wpAny_Slice ?_))
  rw [evalPart_some]
  refine thn (hl.run pins s1 σ H1 _ I1 q1) fun iv s2 ⟨y, H2, I2, r2, q2⟩ => ?_
  rw [evalPart_none]
  refine wpAny_pure (wpAny_pure ?_)
  obtain ⟨l, xs, a, b, ys, rfl, rfl, rfl, hH, hB, hne, h0, hc, hz, q3⟩ := q2
  cases r1
  cases r
  obtain ⟨ti, rfl⟩ := r2
  have I3 : Inv X pins σ H2 { s2 with heap := s2.heap.push { cls := .type "slice", data := .fields #[.int a ti, .none, .none] } } := I2.kept (t' := s2.toks) fun b ob q => Heap.get?_push_of_some _ q
  obtain ⟨z, its, n, r', hl', e'⟩ := I3.lstM hH
  obtain ⟨z2, its2, n2, r2', hl2, e2⟩ := I3.lstM hB
  obtain ⟨a', rfl⟩ := Int.eq_ofNat_of_zero_le h0
  rw [Int.toNat_natCast] at q3
  refine wpAny_bind (wpAny_standAt (wpAny_bind (wpAny_holding ?_)))
  refine setItem_tail (s := { s2 with heap := s2.heap.push { cls := .type "slice", data := .fields #[.int (a' : Int) ti, .none, .none] } }) (a := a') e' e2 hne (Heap.IsSliceOf.new ..) (.int _ _) (by rw [List.size_toArray]; omega) (by rw [List.size_toArray, List.size_toArray]; omega) ?_
  refine wpAny_release ⟨σ, _, ?_, q3⟩
  refine I3.lset (its' := its.take a' ++ its2) (t' := s2.toks) hH e' ?_ (Vals.append (r'.take _) r2') ?_
  · have := splice_eq its its2 a' its.toArray.size
    rw [this]
    congr 1
    rw [List.size_toArray, List.drop_length, List.append_nil]
  · rw [List.length_append, List.length_take]
    omega
@[simp] def sCut (i : Nat) (g f : FE) : FS := fun env => match env[i]? with
  | some (some (.ow ds)) => (match f env with
    | .val (.ow es) => (match g env with
      | .val (.sh (.int a)) => if 0 ≤ a ∧ a ≤ ds.length ∧ ds.length + es.length ≤ 1000000 then .nx (env.set i (some (.ow (ds.take a.toNat ++ es)))) else .stuck
      | _ => .stuck)
    | _ => .stuck)
  | _ => .stuck
section
variable {X : Cx} {T : Ct} {EX : XK} {B : Hp × Hp} {e a b : Expr} {pos p2 px tpos : Pos} {f g : FE} {G H : Hp}
theorem vs_cut (i : Nat) {x : Str} (hg : VE X T EX B b g) (he : VE X T EX B e f) (hN : X.N[i]? = some x := by rfl) (hv : Vis X.env.scope x := by first | exact Or.inl rfl | exact Or.inr (Or.inl rfl) | exact Or.inr (Or.inr rfl)) (hd : (x == ("__debug__" : Str)) = false := by decide) (hcd : (x == ("__classdict__" : Str)) = false := by decide)
    (hpg : ∀ {to ti : TE}, PE X (.Name x px) to → PE X b ti → PG X (.Subscript (.Name x px) (.Slice (some b) none none p2) tpos) (gCut to ti) := by intro to ti h1 h2; exact pg_cut h1 h2)
    (hs : swapsWithSole [.Subscript (.Name x px) (.Slice (some b) none none p2) tpos] e pos.line X.env = pure false := by rfl) (hw : swappedStores [.Subscript (.Name x px) (.Slice (some b) none none p2) tpos] e X.env = pure none := by rfl)
    (h1 : (assignEach [.Subscript (.Name x px) (.Slice (some b) none none p2) tpos] X.env).map (fun x => x.2) = [assign (.Subscript (.Name x px) (.Slice (some b) none none p2) tpos) X.env] := by rfl) :
    VS X T EX B (.Assign [.Subscript (.Name x px) (.Slice (some b) none none p2) tpos] e pos) (sCut i g f) := by
  refine ps_weak (ps_asg he (hpg (pe_var hN hv hd hcd) hg) hs hw h1) fun D σ H q => ?_
  obtain ⟨G, env, S, o⟩ := q
  unfold sCut at o
  split at o
  rotate_left
  · exact o.elim
  rename_i ds ei
  split at o
  rotate_left
  · exact o.elim
  rename_i es ef
  split at o
  rotate_left
  · exact o.elim
  rename_i k eg
  split at o
  rotate_left
  · exact o.elim
  rename_i cc
  refine ⟨G, env, S, ?_⟩
  rw [ef]
  intro q ys G1 H1 s1 n1 n2 e1 d1
  have S1 := S.step s1
  obtain ⟨p, xs, h1, h2, h3, h4, h5⟩ := S1.ow i ds ei
  have hpq : p ≠ q := fun z => by
    obtain ⟨p', xs', k1, k2, _⟩ := S.ow i ds ei
    rw [h1] at k1; cases k1
    rw [z, n1] at k2; cases k2
  refine ⟨.ref p, h1, G1, env, S1, ?_⟩
  rw [eg]
  intro w G2 H2 s2 dw
  obtain ⟨h3', h2'⟩ := s2.own h3 h2
  obtain ⟨n2', e1'⟩ := s2.own n2 e1
  refine ⟨p, xs, k, q, ys, rfl, Dq.intInv dw, rfl, h2', e1', hpq, cc.1, by rw [h5.length]; exact cc.2.1, by rw [h5.length, d1.length, sizeLine_eq]; omega, ?_⟩
  exact o G2 σ _ (s1.gg.trans s2.gg) ((S1.step s2).write ei h1 ((h5.mono s2.gg |>.take _).append (d1.mono s2.gg)))
end
/-! ### len(set(x)), x a list of heaps with unlike hashes -/
mutual
def dHash : D → Int
  | .int i => hashInt i
  | .tuple ds => reduceHash (Builtin.Tuple.tupleHashOf (dHashes ds))
  | _ => 0
def dHashes : List D → List Int
  | [] => []
  | d :: ds => dHash d :: dHashes ds
end
mutual
theorem dHash_eq (w : World) : ∀ d : D, nkOk d = true → (nkOf d).hash w = dHash d
  | .int i, _ => by simp only [nkOf, NestedKey.hash, dHash]
  | .tuple ds, h => by
    simp only [nkOf, NestedKey.hash, dHash]
    simp only [nkOk] at h
    rw [dHashes_eq w ds h]
  | .none, h => by simp [nkOk] at h
  | .bool _, h => by simp [nkOk] at h
  | .str _, h => by simp [nkOk] at h
  | .list _, h => by simp [nkOk] at h
  | .dict _, h => by simp [nkOk] at h
theorem dHashes_eq (w : World) : ∀ ds : List D, nksOk ds = true → NestedKey.hashes w (nksOf ds) = dHashes ds
  | [], _ => by simp only [nksOf, NestedKey.hashes, dHashes]
  | d :: ds, h => by
    simp only [nksOk, Bool.and_eq_true] at h
    simp only [nksOf, NestedKey.hashes, dHashes]
    rw [dHash_eq w d h.1, dHashes_eq w ds h.2]
end
section
variable {X : Cx} {pins : List (Addr × Obj)} {σ : L2.St} {G H : Hp} {s : Shared}
mutual
theorem ti_of (I : Inv X pins σ H s) (gh : Same G H) : ∀ (d : D) (v : V) (u : Value), nkOk d = true → Dq G v d → RelV v u → TI s.heap (nkOf d) u
  | .int i, v, u, _, h, r => by
    rw [h.intInv] at r
    obtain ⟨t, rfl⟩ := r
    simp only [nkOf]
    exact .int i t
  | .tuple ds, v, u, n, h, r => by
    obtain ⟨a, xs, rfl, sq, q⟩ := h.tupInv
    simp only [nkOk] at n
    obtain ⟨its, rv, ⟨o, ho, hc, m, hd⟩, _⟩ := I.tuple (sqT_K (same_seqT gh sq))
    obtain rfl : u = Value.ref a := r
    simp only [nkOf]
    exact .tup ho hc hd (by simpa using tis_of I gh ds xs its n q rv)
  | .none, _, _, h, _, _ => by simp [nkOk] at h
  | .bool _, _, _, h, _, _ => by simp [nkOk] at h
  | .str _, _, _, h, _, _ => by simp [nkOk] at h
  | .list _, _, _, h, _, _ => by simp [nkOk] at h
  | .dict _, _, _, h, _, _ => by simp [nkOk] at h
theorem tis_of (I : Inv X pins σ H s) (gh : Same G H) : ∀ (ds : List D) (vs : List V) (us : List Value), nksOk ds = true → DqAll G vs ds → Vals vs us → TIs s.heap (nksOf ds) us
  | [], vs, us, _, q, r => by
    have := q.inv0
    subst this
    cases r
    simp only [nksOf]
    exact .nil
  | d :: ds, vs, us, n, q, r => by
    obtain ⟨v, vs', rfl, h1, h2⟩ := q.inv
    simp only [nksOk, Bool.and_eq_true] at n
    cases r with
    | cons r1 r2 =>
      simp only [nksOf]
      exact .cons (ti_of I gh d v _ n.1 h1 r1) (tis_of I gh ds vs' _ n.2 h2 r2)
end
theorem keys_list (I : Inv X pins σ H s) (gh : Same G H) : ∀ (ds : List D) (vs : List V) (us : List Value), ds.all keyT = true → DqAll G vs ds → Vals vs us → ∃ ks : List (Addr × NestedKey), us = ks.map (fun p => Value.ref p.1) ∧ (∀ p ∈ ks, TI s.heap p.2 (.ref p.1) ∧ p.2.depth ≤ 8) ∧ (ks.map fun p => p.2.hash X.w) = ds.map dHash
  | [], vs, us, _, q, r => by
    have := q.inv0
    subst this
    cases r
    exact ⟨[], rfl, fun p m => absurd m List.not_mem_nil, rfl⟩
  | d :: ds, vs, us, n, q, r => by
    obtain ⟨v, vs', rfl, h1, h2⟩ := q.inv
    simp only [List.all_cons, Bool.and_eq_true] at n
    cases r with
    | cons r1 r2 =>
      obtain ⟨ks, e1, e2, e3⟩ := keys_list I gh ds vs' _ n.2 h2 r2
      obtain ⟨ok, a, rfl⟩ := key_ref n.1 h1
      simp only [keyOk, Bool.and_eq_true, decide_eq_true_eq] at ok
      obtain rfl : _ = Value.ref a := r1
      refine ⟨(a, nkOf d) :: ks, by rw [List.map_cons, ← e1], fun p m => ?_, by rw [List.map_cons, List.map_cons, e3, dHash_eq X.w d ok.1]⟩
      rcases List.mem_cons.mp m with rfl | m
      · exact ⟨ti_of I gh d _ _ ok.1 h1 rfl, ok.2⟩
      · exact e2 p m
end
@[simp] def fLenSetH : D → R
  | .list ds => if ds.all keyT = true ∧ (ds.map dHash).Nodup ∧ ds.length < 60 then ri (ds.length : Nat) else .stuck
  | _ => .stuck
def tLenSetH (ta : TE) : TE := fun σ H Q => ta σ H fun x H1 => ∃ (G : Hp) (l : Addr) (xs : List V) (ds : List D), x = V.ref l ∧ Same G H1 ∧ SqL [] H1 l xs ∧ DqAll G xs ds ∧ ds.all keyT = true ∧ (ds.map dHash).Nodup ∧ ds.length < 60 ∧ Q (.int (ds.length : Nat)) H1
theorem pe_lenSetH {X : Cx} {a : Expr} {ta : TE} {p p2 q pos : Pos} (hu : X.A.units + 30 < cLine) (hc : X.calm = true) (hg : Gl X "len") (hm : X.mg "len" = none) (hg2 : Gl X "set") (hm2 : X.mg "set" = none) (ha : PE X a ta)
    (na : starEach [a] X.env = (false, eval a X.env) :: starEach [] X.env := by rfl) : PE X (.Call (.Name "len" p) [.Call (.Name "set" p2) [a] [] q] [] pos) (tLenSetH ta) := by
  refine ⟨fun pins s σ H Q I h => ?_⟩
  refine Call_ (ld_blt I hg hm PySem.boot_len ?_)
  refine PyProof.Rows.callWith_builtin1 (PyProof.Rows.args_cons ?_ rfl) rfl rfl
  refine Call_ (ld_blt I hg2 hm2 PyProof.Rows.boot_set ?_)
  refine PyProof.Rows.callWith_type1 (PyProof.Rows.args_cons (thn (ha.run pins s σ H _ I h) fun v s1 ⟨x, H1, I1, r1, q1⟩ => PyProof.Rows.args_nil ?_) na) na rfl
  obtain ⟨G, l, xs, ds, rfl, gh, hq, hd, ok, nd, ln, q1⟩ := q1
  cases r1
  obtain ⟨its, r, pl, hz⟩ := I1.list (sqL_K hq)
  obtain ⟨ks, e1, e2, e3⟩ := keys_list I1 gh ds xs its ok hd r
  have lk : ks.length = ds.length := by
    have := congrArg List.length e3
    rwa [List.length_map, List.length_map] at this
  refine call_set_ti ks (I1.ok.hd hc) pl.isList (by simpa using e1) e2 (by rw [e3]; exact nd) (by omega) (by omega) fun h' tk rs es ep t hS hn hk => ?_
  refine PyProof.Rows.args_nil ?_
  have I2 : Inv X pins σ H1 { s1 with heap := h', toks := tk } := I1.kept fun b o e => hk b o e
  obtain ⟨o, ho, hex, hd⟩ := hS.ob
  have hz : es.size = ds.length := by rw [hS.size, hn, lk]
  refine call_len_set ho hex hd hS.fits (by rw [hz]; omega) ⟨.int (ds.length : Nat), H1, I2.tok _, ⟨_, by rw [hz]⟩, q1⟩
theorem ve_lenSetH {X : Cx} {T : Ct} {EX : XK} {B : Hp × Hp} {a : Expr} {f : FE} {p p2 q pos : Pos} (C : Cv X T EX B) (t1 : Bt X "len") (t2 : Bt X "set") (ha : VE X T EX B a f) (na : starEach [a] X.env = (false, eval a X.env) :: starEach [] X.env := by rfl) : VE X T EX B (.Call (.Name "len" p) [.Call (.Name "set" p2) [a] [] q] [] pos) (op1 fLenSetH f) :=
  pe_weak (pe_lenSetH (by have := C.un; omega) C.calm t1.gl t1.mg t2.gl t2.mg ha na) fun σ H Q q => use1 (r := fun x H1 Q => ∃ (G : Hp) (l : Addr) (xs : List V) (ds : List D), x = V.ref l ∧ Same G H1 ∧ SqL [] H1 l xs ∧ DqAll G xs ds ∧ ds.all keyT = true ∧ (ds.map dHash).Nodup ∧ ds.length < 60 ∧ Q (.int (ds.length : Nat)) H1) (fun x dx G H gh hx o => by
    unfold fLenSetH at o
    split at o
    · split at o
      · rename_i c
        obtain ⟨l, xs, rfl, s1, q1⟩ := hx.lstInv
        exact ⟨G, l, xs, _, rfl, gh, gh.seq s1, q1, c.1, c.2.1, c.2.2, o.ri gh⟩
      · exact o.elim
    · exact o.elim) q
end VL
namespace VL
open PySem L2
theorem runs_det {M : Model} {Γ : Ctx} {p : Pos} {t : Sem Fin} {fs : List Frame} {s : Shared} {e : End} {s' : Shared} (h : Runs M Γ p t fs s e s') : ∀ {e2 : End} {s2 : Shared}, Runs M Γ p t fs s e2 s2 → e2 = e ∧ s2 = s' := by
  induction h with
  | done => intro e2 s2 h2; cases h2; exact ⟨rfl, rfl⟩
  | raise => intro e2 s2 h2; cases h2; exact ⟨rfl, rfl⟩
  | again _ _ ih => intro e2 s2 h2; cases h2; exact ih (by assumption)
  | rule _ ih => intro e2 s2 h2; cases h2; exact ih (by assumption)
  | «at» _ ih => intro e2 s2 h2; cases h2; exact ih (by assumption)
  | load q _ ih => intro e2 s2 h2; cases h2 with | load q2 h2 => rw [q] at q2; cases q2; exact ih h2
  | update _ _ ih => intro e2 s2 h2; cases h2; exact ih (by assumption)
  | loadIfAlive _ ih => intro e2 s2 h2; cases h2; exact ih (by assumption)
  | point _ ih => intro e2 s2 h2; cases h2; exact ih (by assumption)
  | alloc _ ih => intro e2 s2 h2; cases h2; exact ih (by assumption)
  | fresh _ ih => intro e2 s2 h2; cases h2; exact ih (by assumption)
  | ask _ ih => intro e2 s2 h2; cases h2; exact ih (by assumption)
  | choose _ _ ih => intro e2 s2 h2; cases h2; exact ih (by assumption)
  | os _ ih => intro e2 s2 h2; cases h2; exact ih (by assumption)
  | handled _ ih => intro e2 s2 h2; cases h2; exact ih (by assumption)
  | genState q _ ih => intro e2 s2 h2; cases h2 with | genState q2 h2 => rw [q] at q2; cases q2; exact ih h2
  | stack _ ih => intro e2 s2 h2; cases h2; exact ih (by assumption)
  | thread _ ih => intro e2 s2 h2; cases h2; exact ih (by assumption)
  | newGen _ ih => intro e2 s2 h2; cases h2; exact ih (by assumption)
  | call _ _ ih1 ih2 =>
    intro e2 s2 h2
    cases h2 with
    | call a b => obtain ⟨e1, e3⟩ := ih1 a; cases e1; cases e3; exact ih2 b
    | callSusp a => obtain ⟨e1, e3⟩ := ih1 a; cases e1
  | callSusp _ ih1 =>
    intro e2 s2 h2
    cases h2 with
    | call a b => obtain ⟨e1, e3⟩ := ih1 a; cases e1
    | callSusp a => obtain ⟨e1, e3⟩ := ih1 a; cases e1; cases e3; exact ⟨rfl, rfl⟩
  | yield => intro e2 s2 h2; cases h2; exact ⟨rfl, rfl⟩
  | resumeFresh q _ _ _ ih1 ih2 =>
    intro e2 s2 h2
    cases h2 with
    | resumeFresh q2 a _ b => rw [q] at q2; cases q2; obtain ⟨e1, e3⟩ := ih1 a; cases e1; cases e3; exact ih2 b
    | resumeSuspended q2 _ _ _ => rw [q] at q2; cases q2
    | resumeJustStarted q2 n _ => exact absurd rfl n
    | resumeRunning q2 _ => rw [q] at q2; cases q2
    | resumeFinished q2 _ => rw [q] at q2; cases q2
  | resumeSuspended q _ _ _ ih1 ih2 =>
    intro e2 s2 h2
    cases h2 with
    | resumeFresh q2 a _ b => rw [q] at q2; cases q2
    | resumeSuspended q2 a _ b => rw [q] at q2; cases q2; obtain ⟨e1, e3⟩ := ih1 a; cases e1; cases e3; exact ih2 b
    | resumeJustStarted q2 n _ => rw [q] at q2; cases q2
    | resumeThrowFresh q2 _ => rw [q] at q2; cases q2
    | resumeRunning q2 _ => rw [q] at q2; cases q2
    | resumeFinished q2 _ => rw [q] at q2; cases q2
  | resumeJustStarted q n _ ih =>
    intro e2 s2 h2
    cases h2 with
    | resumeFresh q2 a _ b => exact absurd rfl n
    | resumeSuspended q2 a _ b => rw [q] at q2; cases q2
    | resumeJustStarted q2 _ a => exact ih a
    | resumeRunning q2 _ => rw [q] at q2; cases q2
    | resumeFinished q2 _ => rw [q] at q2; cases q2
  | resumeThrowFresh q _ ih =>
    intro e2 s2 h2
    cases h2 with
    | resumeSuspended q2 a _ b => rw [q] at q2; cases q2
    | resumeThrowFresh q2 a => exact ih a
    | resumeRunning q2 _ => rw [q] at q2; cases q2
    | resumeFinished q2 _ => rw [q] at q2; cases q2
  | resumeRunning q _ ih =>
    intro e2 s2 h2
    cases h2 with
    | resumeFresh q2 a _ b => rw [q] at q2; cases q2
    | resumeSuspended q2 a _ b => rw [q] at q2; cases q2
    | resumeJustStarted q2 n _ => rw [q] at q2; cases q2
    | resumeThrowFresh q2 _ => rw [q] at q2; cases q2
    | resumeRunning _ a => exact ih a
    | resumeFinished q2 _ => rw [q] at q2; cases q2
  | resumeFinished q _ ih =>
    intro e2 s2 h2
    cases h2 with
    | resumeFresh q2 a _ b => rw [q] at q2; cases q2
    | resumeSuspended q2 a _ b => rw [q] at q2; cases q2
    | resumeJustStarted q2 n _ => rw [q] at q2; cases q2
    | resumeThrowFresh q2 _ => rw [q] at q2; cases q2
    | resumeRunning q2 _ => rw [q] at q2; cases q2
    | resumeFinished _ a => exact ih a
  | segRet _ _ ih1 ih2 =>
    intro e2 s2 h2
    cases h2 with
    | segRet a b => obtain ⟨e1, e3⟩ := ih1 a; cases e1; cases e3; exact ih2 b
    | segSuspOut _ a => obtain ⟨e1, e3⟩ := ih1 a; cases e1
    | segSuspGen _ a _ _ => obtain ⟨e1, e3⟩ := ih1 a; cases e1
  | segGen _ _ ih1 ih2 =>
    intro e2 s2 h2
    cases h2 with
    | segGen a b => obtain ⟨e1, e3⟩ := ih1 a; cases e1; cases e3; exact ih2 b
    | segSuspOut _ a => obtain ⟨e1, e3⟩ := ih1 a; cases e1
    | segSuspGen _ a _ _ => obtain ⟨e1, e3⟩ := ih1 a; cases e1
  | segSuspOut q _ ih1 =>
    intro e2 s2 h2
    cases h2 with
    | segRet a b => obtain ⟨e1, e3⟩ := ih1 a; cases e1
    | segGen a b => obtain ⟨e1, e3⟩ := ih1 a; cases e1
    | segSuspOut _ a => obtain ⟨e1, e3⟩ := ih1 a; cases e1; cases e3; exact ⟨rfl, rfl⟩
    | segSuspGen q2 a _ _ => rw [q] at q2; cases q2
  | segSuspGen q _ _ _ ih1 ih2 =>
    intro e2 s2 h2
    cases h2 with
    | segRet a b => obtain ⟨e1, e3⟩ := ih1 a; cases e1
    | segGen a b => obtain ⟨e1, e3⟩ := ih1 a; cases e1
    | segSuspOut q2 a => rw [q] at q2; cases q2
    | segSuspGen q2 a _ b => rw [q] at q2; cases q2; obtain ⟨e1, e3⟩ := ih1 a; cases e1; cases e3; exact ih2 b
theorem code_and {M : Model} {A : Around} {c : Code} {R1 R2 : Result → Shared → Prop} {s : Shared} (h1 : codeAny M A c R1 s) (h2 : codeAny M A c R2 s) : codeAny M A c (fun r s' => R1 r s' ∧ R2 r s') s := by
  intro Γ p hc hb
  obtain ⟨r, s1, a1, b1⟩ := h1 Γ p hc hb
  obtain ⟨r2, s2, a2, b2⟩ := h2 Γ p hc hb
  obtain ⟨e1, e2⟩ := runs_det a1 a2
  cases e1; cases e2
  exact ⟨r, s1, a1, b1, b2⟩
end VL
namespace VL
open PySem L2
/-! ### trees that stand apart, by the addresses of their lists and tuples -/
mutual
def trB : D → Bool
  | .tuple [.int _, .list ds] => decide (ds.length ≤ 20000) && trsB ds
  | _ => false
def trsB : List D → Bool
  | [] => true
  | d :: ds => trB d && trsB ds
end
mutual
def deepR : D → RD
  | .list ds => .lst (deepRs ds)
  | .tuple ds => .tup (deepRs ds)
  | .none => .dat .none
  | .bool b => .dat (.bool b)
  | .int i => .dat (.int i)
  | .str x => .dat (.str x)
  | .dict x => .dat (.dict x)
def deepRs : List D → List RD
  | [] => []
  | d :: ds => deepR d :: deepRs ds
end
mutual
theorem deepR_toD : ∀ d : D, (deepR d).toD = some d
  | .list ds => by simp only [deepR, RD.toD, deepRs_toDs ds, Option.map_some]
  | .tuple ds => by simp only [deepR, RD.toD, deepRs_toDs ds, Option.map_some]
  | .none => by simp only [deepR, RD.toD]
  | .bool b => by simp only [deepR, RD.toD]
  | .int i => by simp only [deepR, RD.toD]
  | .str x => by simp only [deepR, RD.toD]
  | .dict x => by simp only [deepR, RD.toD]
theorem deepRs_toDs : ∀ ds : List D, RD.toDs (deepRs ds) = some ds
  | [] => by simp only [deepRs, RD.toDs]
  | d :: ds => by simp only [deepRs, RD.toDs, deepR_toD d, deepRs_toDs ds]
end
theorem tr_inv {d : D} (h : trB d = true) : ∃ k ds, d = .tuple [.int k, .list ds] ∧ trsB ds = true ∧ ds.length ≤ 20000 := by
  unfold trB at h
  split at h
  · simp only [Bool.and_eq_true, decide_eq_true_eq] at h; exact ⟨_, _, rfl, h.2, h.1⟩
  · cases h
theorem trB_tup {k : Int} {ds : List D} : trB (.tuple [.int k, .list ds]) = (decide (ds.length ≤ 20000) && trsB ds) := by rw [trB]
def Z0 : Hp := fun _ => none
def B0 : Hp × Hp := (Z0, Z0)
theorem same_Z0 {H : Hp} : Same Z0 H := fun _ _ e => nomatch e
open Classical in
noncomputable def nM (H : Hp) : Hp := fun a => match H a with
  | some o => if Mem o then none else some o
  | none => none
theorem nM_at {H : Hp} {a : Addr} {o : HO} (h : H a = some o) (n : ¬ Mem o) : nM H a = H a := by
  unfold nM; rw [h]; simp only [n, if_false]
theorem nM_same {H : Hp} : Same (nM H) H := fun a o e => by
  unfold nM at e
  split at e
  · rename_i q
    split at e
    · cases e
    · rw [q]; exact e
  · cases e
theorem nM_no {H : Hp} : NoMem (nM H) := fun a o e m => by
  unfold nM at e
  split at e
  · split at e
    · cases e
    · rename_i n; cases e; exact n m
  · cases e
theorem sameH_at {H H' : Hp} {a : Addr} {o : HO} (s : SameH H H') (h : H a = some o) (n : ¬ Mem o) : H' a = some o := by
  obtain ⟨o', e, q⟩ := s a o h
  rcases q with rfl | q
  · exact e
  · exact absurd q.1 n
theorem nmL {xs : List V} : ¬ Mem (.lst xs) := fun z => z
theorem nmT {xs : List V} : ¬ Mem (.tup xs) := fun z => z
section
variable {T : Ct} {EX : XK} {G H H' H1 : Hp} {σ : L2.St} {Q : VK} {f g : FE} {v : V} {d : D} {S : List Addr} {w : SV}
/-- an environment of data alone -/
def shE (es : List (Option D)) : VEnv := es.map (Option.map SV.sh)
theorem shE_get {es : List (Option D)} {i : Nat} {w : SV} (h : (shE es)[i]? = some (some w)) : ∃ d, w = .sh d ∧ es[i]? = some (some d) := by
  unfold shE at h
  rw [List.getElem?_map] at h
  obtain ⟨o, h1, h2⟩ := Option.map_eq_some_iff.mp h
  cases o with
  | none => cases h2
  | some d => cases h2; exact ⟨d, rfl, h1⟩
structure EsOk (H : Hp) (es : List (Option D)) (σ : L2.St) : Prop where
  len : es.length = σ.length
  rd : ∀ (i : Nat) d, es[i]? = some (some d) → ∃ v, σ[i]? = some (some v) ∧ Dq (nM H) v d
theorem sim0 {es : List (Option D)} (hT : T.me = none) (h : EsOk H es σ) : Sim T B0 (nM H) (shE es) σ H where
  st := ⟨fun _ _ e => (nomatch e), same_Z0, nM_same, fun _ _ _ => rfl, fun _ => nM_no⟩
  nb := fun _ _ e => (nomatch e)
  me := fun a z => by rw [hT] at z; cases z
  len := by unfold shE; rw [List.length_map]; exact h.len
  sh := fun i d e => by
    obtain ⟨d', e1, e2⟩ := shE_get e
    cases e1
    exact h.rd i d e2
  ob := fun i c fs e => by
    obtain ⟨d', e1, _⟩ := shE_get e
    cases e1
  ow := fun i ds e => by
    obtain ⟨d', e1, _⟩ := shE_get e
    cases e1
  ap := fun i j ds es p e => by
    obtain ⟨d', e1, _⟩ := shE_get e
    cases e1
  rg := fun i r e => by
    obtain ⟨d', e1, _⟩ := shE_get e
    cases e1
/-- a value of data, by such an environment; all that was stays -/
theorem rd_sh (hT : T.me = none) (es : List (Option D)) (h : EsOk H es σ) (hf : f (shE es) = .val (.sh d)) (q : ∀ v H', SameH H H' → Dq H' v d → Q v H') : rdV T EX B0 f σ H Q := by
  refine ⟨_, _, sim0 hT h, ?_⟩
  rw [hf]
  exact fun v G' H' s dq => q v H' s.hh (dq.mono s.gh)
/-- any value -/
theorem rd_any (hT : T.me = none) (es : List (Option D)) (h : EsOk H es σ) (hf : f (shE es) = .val w) (q : ∀ v H', SameH H H' → Q v H') : rdV T EX B0 f σ H Q := by
  refine ⟨_, _, sim0 hT h, ?_⟩
  rw [hf]
  cases w with
  | sh d => exact fun v G' H' s _ => q v H' s.hh
  | ow ds => exact fun p xs G' H' s _ _ _ _ => q _ H' s.hh
  | ob c fs => exact fun v G' H' s _ => q v H' s.hh
  | rg r => exact fun v S G' H' s _ _ _ => q v H' s.hh
/-- a new list of data -/
theorem rd_ow (hT : T.me = none) (es : List (Option D)) (h : EsOk H es σ) {ds : List D} (hf : f (shE es) = .val (.ow ds)) (q : ∀ p xs H', SameH H H' → H p = none → H' p = some (.lst xs) → DqAll (nM H') xs ds → Q (.ref p) H') : rdV T EX B0 f σ H Q := by
  refine ⟨_, _, sim0 hT h, ?_⟩
  rw [hf]
  refine fun p xs G' H' s n1 n2 e dq => q p xs H' s.hh n1 e (dq.mono fun a o z => ?_)
  exact (nM_at (s.gh a o z) fun m => s.nm nM_no a o z m).trans (s.gh a o z)
theorem es_none {es : List (Option D)} (hl : es.length = σ.length) (hn : ∀ (i : Nat) d, es[i]? ≠ some (some d)) : EsOk H es σ := ⟨hl, fun i d e => absurd e (hn i d)⟩
theorem rd_c (hT : T.me = none) (q : ∀ v H', SameH H H' → Dq H' v d → Q v H') : rdV T EX B0 (vC d) σ H Q :=
  rd_sh hT (σ.map fun _ => none) (es_none (by rw [List.length_map]) fun i d e => by
    rw [List.getElem?_map] at e
    cases q : σ[i]? with
    | none => rw [q] at e; cases e
    | some z => rw [q] at e; cases e) (by simp only [vC]) q
theorem rd_t (hT : T.me = none) (es : List (Option D)) (h : EsOk H es σ) {b : Bool} {P : Bool → Hp → Prop} (hf : f (shE es) = rb b) (q : ∀ H', SameH H H' → P b H') : rdT T EX B0 f σ H P := by
  refine ⟨_, _, sim0 hT h, ?_⟩
  rw [hf]
  exact fun G' H' s => q H' s.hh
theorem EsOk.step {es : List (Option D)} (h : EsOk H es σ) (s : SameH H H') : EsOk H' es σ := ⟨h.len, fun i d e => by
  obtain ⟨v, e1, e2⟩ := h.rd i d e
  refine ⟨v, e1, e2.mono fun a o z => ?_⟩
  have z2 := sameH_at s (nM_same a o z) (nM_no a o z)
  exact (nM_at z2 (nM_no a o z)).trans z2⟩
theorem nM_step (s : SameH H H') : Same (nM H) (nM H') := fun a o z => by
  have z2 := sameH_at s (nM_same a o z) (nM_no a o z)
  exact (nM_at z2 (nM_no a o z)).trans z2
/-! ### located -/
theorem lo_dq (h : RRp T Z0 H S v (deepR d)) : Dq (nM H) v d := RRp.frz same_Z0 _ S v d h (fun a m => by
  obtain ⟨o, e, n⟩ := RRp.at _ S v h a m
  exact nM_at e n) (deepR_toD d)
theorem lo_step (h : RRp T Z0 H S v (deepR d)) (s : SameH H H') : RRp T Z0 H' S v (deepR d) := RRp.mono (Same.refl _) rfl rfl _ S v h fun a m => by
  obtain ⟨o, e, n⟩ := RRp.at _ S v h a m
  rw [e]; exact sameH_at s e n
theorem lo_tree (h : RRp T Z0 H S v (deepR d)) (t : trB d = true) : ∃ k ds a l cs Sc, d = .tuple [.int k, .list ds] ∧ trsB ds = true ∧ v = .ref a ∧ H a = some (.tup [.int k, .ref l]) ∧ H l = some (.lst cs) ∧ RRpAll T Z0 H Sc cs (deepRs ds) ∧ S = a :: l :: Sc := by
  obtain ⟨k, ds, rfl, t2, _⟩ := tr_inv t
  simp only [deepR, deepRs] at h
  cases h with
  | tup h1 q1 =>
    cases q1 with
    | cons a1 q2 =>
      cases q2 with
      | cons a2 q3 =>
        cases q3
        cases a1 with
        | dat z =>
          cases a2 with
          | lst h2 q4 => exact ⟨k, ds, _, _, _, _, rfl, t2, rfl, by rw [h1, z.intInv], h2, q4, by simp⟩
theorem lo_mk {k : Int} {ds : List D} {a l : Addr} {cs : List V} (h1 : H a = some (.tup [.int k, .ref l])) (h2 : H l = some (.lst cs)) (h3 : RRpAll T Z0 H S cs (deepRs ds)) : RRp T Z0 H (a :: l :: S) (.ref a) (deepR (.tuple [.int k, .list ds])) := by
  simp only [deepR, deepRs]
  have := RRp.tup (T := T) (G := Z0) h1 (.cons (.dat Dq.int) (.cons (.lst h2 h3) .nil))
  simpa using this
abbrev Tri := V × D × List Addr
def Ad (L : List Tri) : List Addr := L.flatMap (fun t => t.2.2)
def TL (T : Ct) (H : Hp) (L : List Tri) : Prop := ∀ t ∈ L, trB t.2.1 = true ∧ RRp T Z0 H t.2.2 t.1 (deepR t.2.1)
theorem TL.step {L : List Tri} (h : TL T H L) (s : SameH H H') : TL T H' L := fun t m => ⟨(h t m).1, lo_step (h t m).2 s⟩
theorem TL.upd {L : List Tri} (h : TL T H L) {p : Addr} {o : HO} (n : p ∉ Ad L) : TL T (upd H p o) L := fun t m => ⟨(h t m).1, RRp.mono (Same.refl _) rfl rfl _ _ _ (h t m).2 fun a ma => upd_ne fun z => n (by rw [← z]; exact List.mem_flatMap.mpr ⟨t, m, ma⟩)⟩
theorem TL.at {L : List Tri} (h : TL T H L) {a : Addr} (m : a ∈ Ad L) : H a ≠ none := by
  obtain ⟨t, mt, ma⟩ := List.mem_flatMap.mp m
  obtain ⟨o, e, _⟩ := RRp.at _ _ _ (h t mt).2 a ma
  rw [e]; exact fun z => nomatch z
theorem TL.sub {L L' : List Tri} (h : TL T H L) (s : ∀ t ∈ L', t ∈ L) : TL T H L' := fun t m => h t (s t m)
theorem TL.append {L L' : List Tri} (h : TL T H L) (h' : TL T H L') : TL T H (L ++ L') := fun t m => (List.mem_append.mp m).elim (h t) (h' t)
theorem TL.cons {t : Tri} {L' : List Tri} (h : TL T H [t]) (h' : TL T H L') : TL T H (t :: L') := fun u m => (List.mem_cons.mp m).elim (fun z => h u (by rw [z]; exact List.mem_cons_self)) (h' u)
theorem ad_app (L L' : List Tri) : Ad (L ++ L') = Ad L ++ Ad L' := by unfold Ad; rw [List.flatMap_append]
theorem ad_cons (t : Tri) (L : List Tri) : Ad (t :: L) = t.2.2 ++ Ad L := by unfold Ad; rw [List.flatMap_cons]
theorem ad_nil : Ad [] = [] := rfl
theorem tl_of : ∀ {ds : List D} {S : List Addr} {vs : List V}, RRpAll T Z0 H S vs (deepRs ds) → trsB ds = true → ∃ L : List Tri, L.map (·.1) = vs ∧ L.map (·.2.1) = ds ∧ Ad L = S ∧ TL T H L
  | [], _, _, h, _ => by
    simp only [deepRs] at h
    cases h
    exact ⟨[], rfl, rfl, rfl, fun t m => nomatch m⟩
  | d :: ds, _, _, h, t => by
    simp only [deepRs] at h
    simp only [trsB, Bool.and_eq_true] at t
    cases h with
    | cons h1 h2 =>
      obtain ⟨L, e1, e2, e3, e4⟩ := tl_of h2 t.2
      exact ⟨(_, d, _) :: L, by rw [List.map_cons, e1], by rw [List.map_cons, e2], by rw [ad_cons, e3], TL.cons (fun u m => by
        have := List.mem_singleton.mp m
        subst this
        exact ⟨t.1, h1⟩) e4⟩
theorem tl_all : ∀ {L : List Tri}, TL T H L → RRpAll T Z0 H (Ad L) (L.map (·.1)) (deepRs (L.map (·.2.1)))
  | [], _ => by simp only [List.map_nil, deepRs, ad_nil]; exact .nil
  | t :: L, h => by
    simp only [List.map_cons, deepRs, ad_cons]
    exact .cons (h t List.mem_cons_self).2 (tl_all (h.sub fun u m => List.mem_cons_of_mem _ m))
theorem tl_trs : ∀ {L : List Tri}, TL T H L → trsB (L.map (·.2.1)) = true
  | [], _ => by simp only [List.map_nil, trsB]
  | t :: L, h => by
    simp only [List.map_cons, trsB, Bool.and_eq_true]
    exact ⟨(h t List.mem_cons_self).1, tl_trs (h.sub fun u m => List.mem_cons_of_mem _ m)⟩
theorem tl_dq : ∀ {L : List Tri}, TL T H L → DqAll (nM H) (L.map (·.1)) (L.map (·.2.1))
  | [], _ => .nil
  | t :: L, h => .cons (lo_dq (h t List.mem_cons_self).2) (tl_dq (h.sub fun u m => List.mem_cons_of_mem _ m))
theorem tl_lst {L : List Tri} {p : Addr} (h : TL T H L) (e : H p = some (.lst (L.map (·.1)))) : Dq (nM H) (.ref p) (.list (L.map (·.2.1))) := Dq.lst (SqL.of ((nM_at e nmL).trans e)) (tl_dq h)
theorem sameH_new {p : Addr} {o : HO} (n : H p = none) : SameH H (upd H p o) := fun b u e => ⟨u, by rw [upd_ne (ne_of_none e n)]; exact e, .inl rfl⟩
theorem sameH_upd {H0 : Hp} {p : Addr} {o : HO} (s : SameH H0 H) (n : H0 p = none) : SameH H0 (upd H p o) := fun b u e => by
  obtain ⟨o', e', q⟩ := s b u e
  exact ⟨o', by rw [upd_ne (ne_of_none e n)]; exact e', q⟩
theorem free_of (s : SameH H H') {a : Addr} (h : H' a = none) : H a = none := s.free h
/-! ### linked -/
theorem at0D (x : VL.D) (xs : List VL.D) : atI (x :: xs) 0 = some x := atI_nat (j := 0) rfl
theorem at1D (x y : VL.D) (xs : List VL.D) : atI (x :: y :: xs) 1 = some y := atI_nat (j := 1) rfl
def ordD : D → Nat
  | .tuple [_, .list ds] => ds.length
  | _ => 0
def spLk (T : Ct) : Sp := fun vs H Q E => ∃ t1 t2 : Tri, vs = [t1.1, t2.1] ∧ TL T H [t1, t2] ∧ (Ad [t1, t2]).Nodup ∧ ordD t1.2.1 ≤ 10000 ∧ ordD t2.2.1 ≤ 10000 ∧ ∀ t H', SameH H H' → TL T H' [t] → t.2.2.Nodup → (∀ a ∈ t.2.2, a ∈ Ad [t1, t2] ∨ H a = none) →
  (ordD t.2.1 ≤ ordD t1.2.1 + 1 ∨ ordD t.2.1 ≤ ordD t2.2.1 + 1) → Q t.1 H'
def tLkR (T : Ct) (E : XK) (K : PySem.W.Frag) : TS := tRet (tTup (tCons (rdV T E B0 (op2 fIx (vVar 0) (vC (.int 0)))) (tCons (tOp rCatR (tLst (tCons (tVar 1) tNil)) (tOp (rIxT K) (tVar 0) (rdV T E B0 (vC (.int 1))))) tNil)))
def tLk (T : Ct) (E : XK) (K : PySem.W.Frag) : TS :=
  tSeq (tIfS (rdT T E B0 (op2 fLt (op2 fIx (vVar 1) (vC (.int 0))) (op2 fIx (vVar 0) (vC (.int 0))))) (tPar 0 1 (tCons (tVar 1) (tCons (tVar 0) tNil))) tNext) (tLkR T E K)
theorem es2 {x y : V} {d e : D} (h1 : Dq (nM H) x d) (h2 : Dq (nM H) y e) : EsOk H [some d, some e] [some x, some y] := ⟨rfl, fun i z q => by
  match i, q with
  | 0, q => cases q; exact ⟨x, rfl, h1⟩
  | 1, q => cases q; exact ⟨y, rfl, h2⟩
  | i + 2, q => simp at q⟩
theorem lk_ret {E : XK} {K : PySem.W.Frag} {D : Ends} (hT : T.me = none) (x y : Tri) (h : TL T H [x, y]) (nd : (Ad [x, y]).Nodup) (ho : ordD x.2.1 ≤ 10000)
    (q : ∀ t H', SameH H H' → TL T H' [t] → t.2.2.Nodup → (∀ a ∈ t.2.2, a ∈ Ad [x, y] ∨ H a = none) → ordD t.2.1 ≤ ordD x.2.1 + 1 → D.rt t.1 H') : tLkR T E K D [some x.1, some y.1] H := by
  obtain ⟨xv, xd, xS⟩ := x
  obtain ⟨yv, yd, yS⟩ := y
  obtain ⟨tx, lx⟩ := h _ List.mem_cons_self
  obtain ⟨ty, ly⟩ := h _ (List.mem_cons_of_mem _ List.mem_cons_self)
  obtain ⟨k, ds, a, l, cs, Sc, rfl, tds, rfl, ha, hl, hcs, rfl⟩ := lo_tree lx tx
  have len : cs.length = ds.length := by
    have := (RRpAll.frz (G2 := nM H) same_Z0 _ _ _ ds hcs (fun b m => by
      obtain ⟨o, e, n⟩ := RRpAll.at _ _ _ hcs b m
      exact nM_at e n) (deepRs_toDs ds)).length
    exact this
  have ho : ds.length ≤ 10000 := ho
  refine rd_sh (d := .int k) hT [some (.tuple [.int k, .list ds]), some yd] (es2 (lo_dq lx) (lo_dq ly)) (by simp [shE, at0D]) fun v H1 s1 dv => ?_
  have ev := dv.intInv
  subst ev
  refine ⟨yv, rfl, by simp; exact Nat.le_of_lt (gl_line (by omega)), fun p0 n0 => ?_⟩
  refine ⟨.ref a, rfl, rd_c hT fun v2 H2 s2 dv2 => ?_⟩
  have ev2 := dv2.intInv
  subst ev2
  have s12 : SameH H1 H2 := (sameH_new n0).trans s2
  have s02 : SameH H H2 := s1.trans s12
  have a2 : H2 a = some (.tup [.int k, .ref l]) := sameH_at s02 ha nmT
  have l2 : H2 l = some (.lst cs) := sameH_at s02 hl nmL
  refine ⟨a, _, 1, .ref l, rfl, rfl, .inl (.inl a2), rfl, ?_⟩
  have p2 : H2 p0 = some (.lst [yv]) := sameH_at s2 upd_same nmL
  refine ⟨p0, l, [yv], cs, rfl, rfl, .inl (.inl p2), .inl (.inl l2), by rw [len]; simp; exact Nat.le_of_lt (gl_line (by omega)), fun p1 n1 => ?_⟩
  refine ⟨by simp; exact Nat.le_of_lt (gl_line (by omega)), fun pt nt => ?_⟩
  have s3 : SameH H (upd (upd H2 p1 (.lst ([yv] ++ cs))) pt (.tup [.int k, .ref p1])) := (s02.trans (sameH_new n1)).trans (sameH_new nt)
  have m0 : H p1 = none := free_of s02 n1
  have mt : H pt = none := free_of (s02.trans (sameH_new n1)) nt
  have lx3 := lo_step lx s3
  have ly3 := lo_step ly s3
  obtain ⟨k', ds', a', l', cs', Sc', e1, _, e2, ha', hl', hcs', e3⟩ := lo_tree lx3 tx
  cases e1
  cases e2
  cases e3
  rw [sameH_at s3 hl nmL] at hl'
  cases hl'
  have np : pt ≠ p1 := fun z => by rw [z, upd_same] at nt; cases nt
  have q1 : upd (upd H2 p1 (.lst ([yv] ++ cs))) pt (.tup [.int k, .ref p1]) p1 = some (.lst (yv :: cs)) := by rw [upd_ne (Ne.symm np), upd_same]; rfl
  have q2 : upd (upd H2 p1 (.lst ([yv] ++ cs))) pt (.tup [.int k, .ref p1]) pt = some (.tup [.int k, .ref p1]) := upd_same
  have big := lo_mk (T := T) (ds := yd :: ds) (S := yS ++ Sc) q2 q1 (by rw [deepRs]; exact .cons ly3 hcs')
  have nd' : (a :: l :: Sc ++ yS).Nodup := by simpa [Ad] using nd
  have fr : ∀ b ∈ yS ++ Sc, H b ≠ none := fun b m => by
    rcases List.mem_append.mp m with m | m
    · obtain ⟨o, e, _⟩ := RRp.at _ _ _ ly b m; rw [e]; exact fun z => nomatch z
    · obtain ⟨o, e, _⟩ := RRpAll.at _ _ _ hcs b m; rw [e]; exact fun z => nomatch z
  have ndS : (yS ++ Sc).Nodup := by
    have := nd'.sublist (l₁ := Sc ++ yS) (by simp)
    exact (List.perm_append_comm.nodup_iff).mp this
  refine q (.ref pt, .tuple [.int k, .list (yd :: ds)], pt :: p1 :: (yS ++ Sc)) _ s3 (fun u m => ?_) ?_ (fun b m => ?_) (by simp [ordD])
  · have := List.mem_singleton.mp m
    subst this
    exact ⟨by rw [trB_tup]; simp only [trsB, tds, ty, Bool.and_self, Bool.and_true, decide_eq_true_eq, List.length_cons]; omega, big⟩
  · refine List.nodup_cons.mpr ⟨fun m => ?_, List.nodup_cons.mpr ⟨fun m => fr _ m m0, ndS⟩⟩
    rcases List.mem_cons.mp m with m | m
    · exact np m
    · exact fr _ m mt
  · rcases List.mem_cons.mp m with m | m
    · subst m; exact .inr mt
    · rcases List.mem_cons.mp m with m | m
      · subst m; exact .inr m0
      · refine .inl ?_
        simp only [Ad, List.flatMap_cons, List.flatMap_nil, List.append_nil, List.mem_append, List.mem_cons] at m ⊢
        rcases m with m | m
        · exact .inr m
        · exact .inl (.inr (.inr m))
theorem lk_core {E : XK} {K : PySem.W.Frag} (hT : T.me = none) {vs : List V} (h : spLk T vs H Q E) : ∃ x y, vs = [x, y] ∧ tLk T E K { nx := fun _ H' => Q .non H', rt := Q } [some x, some y] H := by
  obtain ⟨t1, t2, rfl, hL, nd, o1, o2, q⟩ := h
  refine ⟨t1.1, t2.1, rfl, ?_⟩
  obtain ⟨tx, lx⟩ := hL _ List.mem_cons_self
  obtain ⟨ty, ly⟩ := hL _ (List.mem_cons_of_mem _ List.mem_cons_self)
  obtain ⟨k1, ds1, e1, _, _⟩ := tr_inv tx
  obtain ⟨k2, ds2, e2, _, _⟩ := tr_inv ty
  refine rd_t (b := decide (k2 < k1)) hT [some t1.2.1, some t2.2.1] (es2 (lo_dq lx) (lo_dq ly)) (by rw [e1, e2]; simp [shE, at0D]) fun H1 s1 => ?_
  have hL1 := hL.step s1
  split
  · refine ⟨t2.1, rfl, t1.1, rfl, t2.1, t1.1, rfl, ?_⟩
    refine lk_ret hT t2 t1 (hL1.sub fun u m => by simp at m ⊢; exact m.symm) ?_ o2 fun t H' s a b c d => q t H' (s1.trans s) a b (fun z m => (c z m).imp (fun y => by simp only [Ad, List.flatMap_cons, List.flatMap_nil, List.append_nil, List.mem_append] at y ⊢; exact y.symm) (free_of s1)) (.inr d)
    simp only [Ad, List.flatMap_cons, List.flatMap_nil, List.append_nil] at nd ⊢
    exact (List.perm_append_comm.nodup_iff).mp nd
  · exact lk_ret hT t1 t2 hL1 nd o1 fun t H' s a b c d => q t H' (s1.trans s) a b (fun z m => (c z m).imp id (free_of s1)) (.inl d)
end
end VL
namespace VL
open PySem L2
/-! ### joined_of -/
theorem nd_link {A R Fi S12 t : List Addr} (h : (A ++ (S12 ++ (R ++ Fi))).Nodup) (ht : t.Nodup) (hs : ∀ a ∈ t, a ∈ S12 ∨ (a ∉ A ∧ a ∉ R ∧ a ∉ Fi)) : ((A ++ R) ++ (t ++ Fi)).Nodup := by
  simp only [List.nodup_append, List.mem_append] at h ⊢
  obtain ⟨h1, ⟨h2, ⟨h3, h4, h5⟩, h6⟩, h7⟩ := h
  refine ⟨⟨h1, h3, fun a m b n => h7 a m b (.inr (.inl n))⟩, ⟨ht, h4, fun a m b n e => ?_⟩, fun a m b n e => ?_⟩
  · subst e
    rcases hs a m with z | z
    · exact h6 a z a (.inr n) rfl
    · exact z.2.2 n
  · subst e
    rcases n with n | n
    · rcases hs a n with z | z
      · rcases m with m | m
        · exact h7 a m a (.inl z) rfl
        · exact h6 a z a (.inl m) rfl
      · rcases m with m | m
        · exact z.1 m
        · exact z.2.1 m
    · rcases m with m | m
      · exact h7 a m a (.inr (.inr n)) rfl
      · exact h5 a m a n rfl
theorem ad_perm {L M : List Tri} (h : L.Perm M) : (Ad L).Perm (Ad M) := List.Perm.flatMap_right _ h
def geL (i : Nat) (L : List Tri) : List Tri := L.filter fun t => decide (i ≤ ordD t.2.1)
def eqL (i : Nat) (L : List Tri) : List Tri := L.filter fun t => decide (ordD t.2.1 = i)
theorem ge_perm (i : Nat) : ∀ L : List Tri, (geL i L).Perm (eqL i L ++ geL (i + 1) L)
  | [] => .refl _
  | t :: L => by
    have ih := ge_perm i L
    unfold geL eqL at ih ⊢
    simp only [List.filter_cons]
    by_cases h1 : ordD t.2.1 = i
    · simp only [h1, Nat.le_refl, decide_true, if_true, show ¬ (i + 1 ≤ i) by omega, decide_false, Bool.false_eq_true, if_false, List.cons_append]
      exact ih.cons _
    · by_cases h2 : i ≤ ordD t.2.1
      · simp only [h1, h2, show i + 1 ≤ ordD t.2.1 by omega, decide_true, if_true, decide_false, Bool.false_eq_true, if_false]
        exact (ih.cons _).trans List.perm_middle.symm
      · simp only [h1, h2, show ¬ (i + 1 ≤ ordD t.2.1) by omega, decide_false, Bool.false_eq_true, if_false]
        exact ih
def fHigh (c : List SV → R) : FE := cal1 fMax1 (op2 fAdd (vLc [8] (tgN 8) (itD iL (op2 fAdd (vVar 0) (vVar 1))) (vC (.bool true)) (calF 1 c [vVar 8])) (vLst [op1 fNeg (vC (.int 1))]))
def tJSome (T : Ct) (K : PySem.W.Frag) (c : List SV → R) : TE := tOp rCatR (tLc (iList K (tOp rCatR (tVar 0) (tVar 1))) (gName 8) (rdT T L2.E0 B0 (op2 fEq (calF 1 c [vVar 8]) (vVar 6))) (tVar 8) [8]) (tVar 3)
def tJLink (T : Ct) (E : XK) (K : PySem.W.Frag) : TS := tSeq (tAsg (tLst (tCons (tCallS (spLk T) (fun _ => E) (tCons (tOp (rIxL K) (tVar 7) (rdV T E B0 (vC (.int 0)))) (tCons (tOp (rIxL K) (tVar 7) (rdV T E B0 (vC (.int 1)))) tNil))) tNil)) (gName 3))
  (tSeq (tAsg (tSl (rSlL K) (tVar 7) (tPart (rdV T E B0 (vC (.int 2)))) tNoPart) (gName 7)) (tAug 4 (rdV T E B0 (vC (.int 1))) (ipI fun i j => i + j)))
def tJExt (K : PySem.W.Frag) : TS := tDrop (tBM K "list" rExtR (tVar 2) (tCons (tVar 7) tNil))
def tJBody (T : Ct) (E : XK) (K : PySem.W.Frag) (c : List SV → R) : TS := tSeq (tAsg (tJSome T K c) (gName 7)) (tSeq (tAsg (tLst tNil) (gName 3)) (tSeq (tIfS (rdT T E B0 (op2 fGt (cal1 fLen (vVar 7)) (vC (.int 1)))) (tJLink T E K) tNext) (tJExt K)))
def tJ (T : Ct) (E : XK) (K : PySem.W.Frag) (c : List SV → R) : TS := tSeq (tPar3 2 3 4 (tCons (tLst tNil) (tCons (tLst tNil) (tCons (rdV T E B0 (vC (.int 0))) tNil)))) (tSeq (tAsg (rdV T E B0 (fHigh c)) (gName 5))
  (tSeq (tFor (iRng1 (tCons (rdV T E B0 (op2 fAdd (vVar 5) (vC (.int 2)))) tNil)) (gName 6) (tJBody T E K c)) (tRet (tTup (tCons (tVar 2) (tCons (tVar 4) tNil))))))
section
variable {T : Ct} {E EX : XK} {K : PySem.W.Frag} {G H H' H1 : Hp} {Q : VK} {c : List SV → R} {D : Ends}
theorem es9 {σ : L2.St} (i : Nat) {v : V} {d : VL.D} (hl : σ.length = 9) (hi : σ[i]? = some (some v)) (h : Dq (nM H) v d) : EsOk H ((List.replicate 9 none).set i (some d)) σ := ⟨by simp [hl], fun j z q => by
  by_cases e : i = j
  · subst e
    have hb : i < 9 := by
      have := (List.getElem?_eq_some_iff.mp hi).1
      omega
    rw [List.getElem?_set_self (by simpa using hb)] at q
    cases q
    exact ⟨v, hi, h⟩
  · rw [List.getElem?_set_ne e] at q
    rw [List.getElem?_replicate] at q
    split at q <;> cases q⟩
theorem es9b {σ : L2.St} (i j : Nat) {v w : V} {d e : VL.D} (hl : σ.length = 9) (hi : σ[i]? = some (some v)) (hj : σ[j]? = some (some w)) (h : Dq (nM H) v d) (h2 : Dq (nM H) w e) : EsOk H (((List.replicate 9 none).set i (some d)).set j (some e)) σ := ⟨by simp [hl], fun l z q => by
  by_cases ej : j = l
  · subst ej
    have hb : j < 9 := by
      have := (List.getElem?_eq_some_iff.mp hj).1
      omega
    rw [List.getElem?_set_self (by simpa using hb)] at q
    cases q
    exact ⟨w, hj, h2⟩
  · rw [List.getElem?_set_ne ej] at q
    exact (es9 i hl hi h).rd l z q⟩
/-- the trees of an order, and those carried -/
theorem some_core (hT : T.me = none) (hO : ∀ d, trB d = true → c [.sh d] = ri (ordD d : Nat)) {σ : L2.St} {p1 p2 pc : Addr} {M1 M2 C : List Tri} {o : Nat} (hl : σ.length = 9) (s0 : σ[0]? = some (some (.ref p1))) (s1 : σ[1]? = some (some (.ref p2))) (s3 : σ[3]? = some (some (.ref pc))) (s6 : σ[6]? = some (some (.int o)))
    (h1 : H p1 = some (.lst (M1.map (·.1)))) (h2 : H p2 = some (.lst (M2.map (·.1)))) (h3 : H pc = some (.lst (C.map (·.1)))) (tl : TL T H (M1 ++ M2)) (n1 : M1.length ≤ 100) (n2 : M2.length ≤ 100) (n3 : C.length ≤ 1)
    (q : ∀ p H', SameH H H' → H' p = some (.lst ((eqL o (M1 ++ M2) ++ C).map (·.1))) → Q (.ref p) H') : tJSome T K c σ H Q := by
  refine ⟨.ref p1, s0, .ref p2, s1, p1, p2, _, _, rfl, rfl, .inl (.inl h1), .inl (.inl h2), by simp; exact Nat.le_of_lt (gl_line (by omega)), fun pa na => ?_⟩
  have sa : SameH H (upd H pa (.lst (M1.map (·.1) ++ M2.map (·.1)))) := sameH_new na
  have ha : upd H pa (.lst (M1.map (·.1) ++ M2.map (·.1))) pa = some (.lst ((M1 ++ M2).map (·.1))) := by rw [upd_same, List.map_append]
  revert sa ha
  generalize upd H pa (.lst (M1.map (·.1) ++ M2.map (·.1))) = Ha
  intro sa ha
  refine ⟨pa, rfl, ⟨_, .inl (.inl ha)⟩, fun D nD => ?_⟩
  have w := walk_list (K := K) (a := pa) (xs := (M1 ++ M2).map (·.1))
  refine lc_it w (fun i Hc => SameH Ha Hc ∧ Hc D = some (.lst ((eqL o ((M1 ++ M2).take i)).map (·.1)))) ⟨sameH_new nD, upd_same⟩ (fun i Hc _ p => .inl (.inl (sameH_at p.1 ha nmL))) ?_ ?_
  · rintro i x Hc H' hi ⟨sc, hD⟩ ⟨rfl, ex⟩
    rw [List.length_map] at hi
    rw [List.getElem?_map, List.getElem?_eq_getElem hi] at ex
    have ex : (M1 ++ M2)[i].1 = x := Option.some.inj ex
    subst ex
    have tm := (tl.step (sa.trans sc)) _ (List.getElem_mem hi)
    have tk : (M1 ++ M2).take (i + 1) = (M1 ++ M2).take i ++ [(M1 ++ M2)[i]] := by rw [List.take_succ, List.getElem?_eq_getElem hi]; rfl
    generalize (M1 ++ M2)[i] = t at tm tk
    have hw : ∀ z, (L2.wipe (σ.set 8 z) [8]) = L2.wipe σ [8] := fun z => by simp [L2.wipe]
    have wl : (L2.wipe σ [8]).length = 9 := by simp [L2.wipe, hl]
    refine ⟨by simp [L2.wipe], rd_t (b := decide (ordD t.2.1 = o)) hT (((List.replicate 9 none).set 6 (some (.int o))).set 8 (some t.2.1)) (es9b 6 8 (by simp [wl]) ?_ ?_ Dq.int (lo_dq tm.2)) ?_ fun H3 s3' => ?_⟩
    · simp [L2.wipe, s6]
    · simp [L2.wipe, hl]
    · simp [shE, List.replicate, hO _ tm.1, fEq, PyData.depth, PyData.eqv]
      rw [Bool.eq_iff_iff, beq_iff_eq, decide_eq_true_eq]; omega
    · have hD3 := sameH_at s3' hD nmL
      by_cases z : ordD t.2.1 = o
      · simp only [z, decide_true, if_true]
        refine ⟨t.1, by simp [L2.wipe, hl], _, hD3, ?_, sameH_upd (sc.trans s3') nD, ?_⟩
        · rw [List.length_map]
          refine gl_line (Nat.le_trans (List.length_filter_le _ _) ?_)
          rw [List.length_take, List.length_append]; omega
        · rw [upd_same, tk]
          simp [eqL, List.filter_append, z]
      · simp only [z, decide_false, Bool.false_eq_true, if_false]
        refine ⟨sc.trans s3', ?_⟩
        rw [hD3, tk]
        simp [eqL, List.filter_append, z]
  · rintro Hc ⟨sc, hD⟩
    rw [List.length_map, List.take_length] at hD
    refine ⟨.ref pc, s3, D, pc, _, _, rfl, rfl, .inl (.inl hD), .inl (.inl (sameH_at (sa.trans sc) h3 nmL)), ?_, fun p np => ?_⟩
    · rw [List.length_map, List.length_map]
      refine Nat.le_of_lt (gl_line ?_)
      have := List.length_filter_le (fun t : Tri => decide (ordD t.2.1 = o)) (M1 ++ M2)
      unfold eqL
      rw [List.length_append] at this
      omega
    · exact q p _ ((sa.trans sc).trans (sameH_new np)) (by rw [upd_same, List.map_append])
/-- what stands at the turn i -/
structure JI (T : Ct) (H0 : Hp) (L : List Tri) (p1 p2 : Addr) (i : Nat) (σ : L2.St) (H : Hp) : Prop where
  ex : ∃ (pf pc : Addr) (n : Int) (x5 x6 x7 x8 : Option V) (F C : List Tri), σ = [some (.ref p1), some (.ref p2), some (.ref pf), some (.ref pc), some (.int n), x5, x6, x7, x8] ∧ SameH H0 H ∧ H0 pf = none ∧ H pf = some (.lst (F.map (·.1))) ∧ H pc = some (.lst (C.map (·.1))) ∧
    TL T H (F ++ (C ++ geL i L)) ∧ (Ad (F ++ (C ++ geL i L))).Nodup ∧ pf ∉ Ad (F ++ (C ++ geL i L)) ∧ (∀ a ∈ Ad (F ++ (C ++ geL i L)), a ∈ Ad L ∨ H0 a = none) ∧ (∀ t ∈ C, ordD t.2.1 ≤ 1000 + i) ∧ F.length ≤ 201 * i ∧ C.length ≤ 1
theorem ext_core {D : Ends} {p1 p2 pf pc ps : Addr} {n : Int} {x5 x6 x8 : Option V} {H0 : Hp} {L F C R : List Tri} {i : Nat} (s0 : SameH H0 H) (h0 : H0 pf = none) (hf : H pf = some (.lst (F.map (·.1)))) (hc : H pc = some (.lst (C.map (·.1)))) (hs : H ps = some (.lst (R.map (·.1)))) (nc : pf ≠ pc)
    (tl : TL T H ((F ++ R) ++ (C ++ geL (i + 1) L))) (nd : (Ad ((F ++ R) ++ (C ++ geL (i + 1) L))).Nodup) (nf : pf ∉ Ad ((F ++ R) ++ (C ++ geL (i + 1) L))) (ha : ∀ a ∈ Ad ((F ++ R) ++ (C ++ geL (i + 1) L)), a ∈ Ad L ∨ H0 a = none) (ho : ∀ t ∈ C, ordD t.2.1 ≤ 1000 + (i + 1)) (lf : F.length ≤ 201 * i) (li : i ≤ 2000) (lr : R.length ≤ 201) (lc : C.length ≤ 1)
    (q : ∀ σ H, JI T H0 L p1 p2 (i + 1) σ H → D.nx σ H) : tJExt K D [some (.ref p1), some (.ref p2), some (.ref pf), some (.ref pc), some (.int n), x5, x6, some (.ref ps), x8] H := by
  refine ⟨.ref pf, rfl, .inl ⟨rfl, _, .inl (.inl hf)⟩, .ref ps, rfl, pf, ps, _, _, rfl, rfl, hf, .inl (.inl hs), by rw [List.length_map, List.length_map]; exact Nat.le_of_lt (gl_line (by omega)), ?_⟩
  refine q _ _ ⟨pf, pc, n, x5, x6, _, x8, F ++ R, C, rfl, sameH_upd s0 h0, h0, by rw [upd_same, List.map_append], by rw [upd_ne (Ne.symm nc)]; exact hc, tl.upd nf, nd, nf, ha, ho, by rw [List.length_append]; omega, lc⟩
theorem body_core (hT : T.me = none) (hO : ∀ d, trB d = true → c [.sh d] = ri (ordD d : Nat)) {D : Ends} {p1 p2 : Addr} {M1 M2 : List Tri} {H0 : Hp} {i : Nat} {σ : L2.St} (h1 : H0 p1 = some (.lst (M1.map (·.1)))) (h2 : H0 p2 = some (.lst (M2.map (·.1)))) (tl0 : TL T H0 (M1 ++ M2)) (n1 : M1.length ≤ 100) (n2 : M2.length ≤ 100)
    (no : ∀ t ∈ M1 ++ M2, ordD t.2.1 ≤ 1000) (li : i ≤ 2000) (J : JI T H0 (M1 ++ M2) p1 p2 i σ H) (q : ∀ σ H, JI T H0 (M1 ++ M2) p1 p2 (i + 1) σ H → D.nx σ H) : tJBody T E K c D (σ.set 6 (some (.int i))) H := by
  obtain ⟨pf, pc, n, x5, x6, x7, x8, F, C, rfl, s0, h0, hf, hc, tl, nd, nf, ha, ho, lf, lc⟩ := J.ex
  refine some_core (o := i) hT hO (σ := [some (.ref p1), some (.ref p2), some (.ref pf), some (.ref pc), some (.int n), x5, some (.int i), x7, x8]) rfl rfl rfl rfl rfl (sameH_at s0 h1 nmL) (sameH_at s0 h2 nmL) hc (tl0.step s0) n1 n2 lc fun ps H1 s1 hs => ?_
  have perm : (F ++ (C ++ geL i (M1 ++ M2))).Perm (F ++ ((eqL i (M1 ++ M2) ++ C) ++ geL (i + 1) (M1 ++ M2))) := by
    refine List.Perm.append_left _ ?_
    refine ((ge_perm i (M1 ++ M2)).append_left C).trans ?_
    rw [← List.append_assoc]
    exact (List.perm_append_comm).append_right _
  have lm : (eqL i (M1 ++ M2) ++ C).length ≤ 201 := by
    have := List.length_filter_le (fun t : Tri => decide (ordD t.2.1 = i)) (M1 ++ M2)
    rw [List.length_append] at this ⊢
    unfold eqL
    omega
  have om : ∀ t ∈ eqL i (M1 ++ M2) ++ C, ordD t.2.1 ≤ 1000 + i := fun t m => by
    rcases List.mem_append.mp m with m | m
    · have := (List.mem_filter.mp m).2
      simp only [decide_eq_true_eq] at this
      omega
    · exact ho t m
  revert hs perm lm om
  generalize eqL i (M1 ++ M2) ++ C = M
  intro hs perm lm om
  have tlM : TL T H1 (F ++ (M ++ geL (i + 1) (M1 ++ M2))) := (tl.step s1).sub fun t m => perm.symm.subset m
  have ap := ad_perm perm
  have ndM := ap.nodup_iff.mp nd
  have nfM : pf ∉ Ad (F ++ (M ++ geL (i + 1) (M1 ++ M2))) := fun z => nf (ap.symm.subset z)
  have haM : ∀ a ∈ Ad (F ++ (M ++ geL (i + 1) (M1 ++ M2))), a ∈ Ad (M1 ++ M2) ∨ H0 a = none := fun a m => ha a (ap.symm.subset m)
  have hf1 := sameH_at s1 hf nmL
  refine ⟨by simp, fun pe ne => ?_⟩
  have sE : SameH H1 (upd H1 pe (.lst [])) := sameH_new ne
  have hE : upd H1 pe (.lst []) pe = some (.lst []) := upd_same
  revert sE hE
  generalize upd H1 pe (.lst []) = H2
  intro sE hE
  have s02 := (s0.trans s1).trans sE
  have hs2 := sameH_at sE hs nmL
  have tl2 := tlM.step sE
  have hf2 := sameH_at sE hf1 nmL
  have nce : pf ≠ pe := fun z => by rw [z, ne] at hf1; cases hf1
  have tlm : TL T H2 M := tl2.sub fun t m => List.mem_append_right _ (List.mem_append_left _ m)
  refine rd_t (b := decide (1 < M.length)) hT ((List.replicate 9 none).set 7 (some (.list (M.map (·.2.1))))) (es9 7 rfl rfl (tl_lst tlm hs2)) (by simp [shE, List.replicate]; omega) fun H3 s3 => ?_
  by_cases hb : 1 < M.length
  rotate_left
  · simp only [hb, decide_false, Bool.false_eq_true, if_false]
    refine ext_core (F := F) (C := []) (R := M) (s02.trans s3) h0 (sameH_at s3 hf2 nmL) (sameH_at s3 hE nmL) (sameH_at s3 hs2 nmL) nce (by rw [List.append_assoc]; exact tl2.step s3) ?_ ?_ ?_ (fun t m => nomatch m) lf li lm (by simp) q
    · rw [List.append_assoc]; exact ndM
    · rw [List.append_assoc]; exact nfM
    · rw [List.append_assoc]; exact haM
  · simp only [hb, decide_true, if_true]
    match M, hb with
    | t1 :: t2 :: R, _ =>
      have tl3 := tl2.step s3
      have hs3 := sameH_at s3 hs2 nmL
      refine ⟨.ref ps, rfl, rd_c hT fun v H4 s4 dv => ?_⟩
      rw [dv.intInv]
      refine ⟨ps, _, 0, t1.1, rfl, rfl, .inl (.inl (sameH_at s4 hs3 nmL)), atI_nat (j := 0) rfl, .ref ps, rfl, rd_c hT fun v2 H5 s5 dv2 => ?_⟩
      rw [dv2.intInv]
      have s35 := s4.trans s5
      have hs5 := sameH_at s35 hs3 nmL
      have tl5 := tl3.step s35
      refine ⟨ps, _, 1, t2.1, rfl, rfl, .inl (.inl hs5), atI_nat (j := 1) rfl, ?_⟩
      have e12 : Ad (F ++ (t1 :: t2 :: R ++ geL (i + 1) (M1 ++ M2))) = Ad F ++ (Ad [t1, t2] ++ (Ad R ++ Ad (geL (i + 1) (M1 ++ M2)))) := by
        rw [ad_app, show t1 :: t2 :: R = [t1, t2] ++ R from rfl, List.append_assoc, ad_app, ad_app]
      rw [e12] at ndM nfM haM
      have s05 := (s02.trans s3).trans s35
      refine ⟨t1, t2, rfl, tl5.sub fun t m => List.mem_append_right _ (List.mem_append_left _ (by
        simp only [List.mem_cons, List.not_mem_nil, or_false] at m ⊢
        rcases m with m | m
        · exact .inl m
        · exact .inr (.inl m))), ?_, Nat.le_trans (om t1 List.mem_cons_self) (by omega), Nat.le_trans (om t2 (List.mem_cons_of_mem _ List.mem_cons_self)) (by omega), fun t H6 s6 tlt ndt ht hot => ?_⟩
      · exact (ndM.sublist (List.sublist_append_right _ _)).sublist (List.sublist_append_left _ _)
      refine ⟨by simp; exact Nat.le_of_lt (gl_line (by omega)), fun pn nn => ?_⟩
      have sN : SameH H6 (upd H6 pn (.lst [t.1])) := sameH_new nn
      have hN : upd H6 pn (.lst [t.1]) pn = some (.lst ([t].map (·.1))) := by rw [upd_same]; rfl
      revert sN hN
      generalize upd H6 pn (.lst [t.1]) = H7
      intro sN hN
      refine ⟨.ref ps, rfl, rd_c hT fun v3 H8 s8 dv3 => ?_⟩
      rw [dv3.intInv]
      refine ⟨2, rfl, ?_⟩
      have s58 := (s6.trans sN).trans s8
      refine ⟨ps, _, rfl, .inl (.inl (sameH_at s58 hs5 nmL)), fun pr nr => ?_⟩
      have hR : upd H8 pr (.lst (cutV (List.map (fun x => x.1) (t1 :: t2 :: R)) (some 2) none)) pr = some (.lst (R.map (·.1))) := by
        rw [upd_same]
        have : cutV (List.map (fun x : Tri => x.1) (t1 :: t2 :: R)) (some 2) none = R.map (·.1) := by
          unfold cutV HT.sIx
          simp
          exact List.take_of_length_le (by simp)
        rw [this]
      have sR : SameH H8 (upd H8 pr (.lst (cutV (List.map (fun x => x.1) (t1 :: t2 :: R)) (some 2) none))) := sameH_new nr
      revert hR sR
      generalize upd H8 pr (.lst (cutV (List.map (fun x => x.1) (t1 :: t2 :: R)) (some 2) none)) = H9
      intro hR sR
      refine ⟨.int n, rfl, rd_c hT fun v4 H10 s10 dv4 => ?_⟩
      rw [dv4.intInv]
      refine ⟨n, 1, rfl, rfl, ?_⟩
      have s6x := ((sN.trans s8).trans sR).trans s10
      have s5x := s6.trans s6x
      have hf5 := sameH_at (s3.trans s35) hf2 nmL
      have npf : pf ≠ pn := fun z => by
        rw [z] at hf5
        rw [sameH_at s6 hf5 nmL] at nn
        cases nn
      have old : ∀ a ∈ Ad F ++ (Ad [t1, t2] ++ (Ad R ++ Ad (geL (i + 1) (M1 ++ M2)))), H5 a ≠ none := fun a m => tl5.at (by rw [e12]; exact m)
      have e13 : Ad ((F ++ R) ++ ([t] ++ geL (i + 1) (M1 ++ M2))) = (Ad F ++ Ad R) ++ (t.2.2 ++ Ad (geL (i + 1) (M1 ++ M2))) := by
        rw [ad_app, ad_app, List.singleton_append, ad_cons]
      refine ext_core (F := F) (C := [t]) (R := R) (s05.trans s5x) h0 (sameH_at s5x hf5 nmL) (sameH_at ((s8.trans sR).trans s10) hN nmL) (sameH_at s10 hR nmL) npf ?_ ?_ ?_ ?_ (fun u m => ?_) lf li ?_ (by simp) q
      · refine TL.append (TL.append ?_ ?_) (TL.append (tlt.step s6x) ?_)
        · exact (tl5.step s5x).sub fun u m => List.mem_append_left _ m
        · exact (tl5.step s5x).sub fun u m => List.mem_append_right _ (List.mem_append_left _ (List.mem_cons_of_mem _ (List.mem_cons_of_mem _ m)))
        · exact (tl5.step s5x).sub fun u m => List.mem_append_right _ (List.mem_append_right _ m)
      · rw [e13]
        refine nd_link ndM ndt fun a m => (ht a m).imp id fun z => ⟨fun y => ?_, fun y => ?_, fun y => ?_⟩
        · exact old a (List.mem_append_left _ y) z
        · exact old a (List.mem_append_right _ (List.mem_append_right _ (List.mem_append_left _ y))) z
        · exact old a (List.mem_append_right _ (List.mem_append_right _ (List.mem_append_right _ y))) z
      · rw [e13]
        intro z
        rcases List.mem_append.mp z with z | z
        · rcases List.mem_append.mp z with z | z
          · exact nfM (List.mem_append_left _ z)
          · exact nfM (List.mem_append_right _ (List.mem_append_right _ (List.mem_append_left _ z)))
        · rcases List.mem_append.mp z with z | z
          · rcases ht _ z with y | y
            · exact nfM (List.mem_append_right _ (List.mem_append_left _ y))
            · rw [hf5] at y; cases y
          · exact nfM (List.mem_append_right _ (List.mem_append_right _ (List.mem_append_right _ z)))
      · rw [e13]
        intro a z
        rcases List.mem_append.mp z with z | z
        · rcases List.mem_append.mp z with z | z
          · exact haM a (List.mem_append_left _ z)
          · exact haM a (List.mem_append_right _ (List.mem_append_right _ (List.mem_append_left _ z)))
        · rcases List.mem_append.mp z with z | z
          · rcases ht _ z with y | y
            · exact haM a (List.mem_append_right _ (List.mem_append_left _ y))
            · exact .inr (free_of s05 y)
          · exact haM a (List.mem_append_right _ (List.mem_append_right _ (List.mem_append_right _ z)))
      · have := List.mem_singleton.mp m
        subst this
        have o1 := om t1 List.mem_cons_self
        have o2 := om t2 (List.mem_cons_of_mem _ List.mem_cons_self)
        rcases hot with z | z <;> omega
      · simp only [List.length_cons] at lm
        omega
def spJ (T : Ct) : Sp := fun vs H Q E => ∃ (p1 p2 : Addr) (M1 M2 : List Tri), vs = [.ref p1, .ref p2] ∧ H p1 = some (.lst (M1.map (·.1))) ∧ H p2 = some (.lst (M2.map (·.1))) ∧ TL T H (M1 ++ M2) ∧ (Ad (M1 ++ M2)).Nodup ∧ M1.length ≤ 100 ∧ M2.length ≤ 100 ∧ (∀ t ∈ M1 ++ M2, ordD t.2.1 ≤ 1000) ∧
  ∀ pt pf n F H', SameH H H' → H pt = none → H pf = none → H' pt = some (.tup [.ref pf, .int n]) → H' pf = some (.lst (F.map (·.1))) → TL T H' F → (pt :: pf :: Ad F).Nodup → (∀ a ∈ Ad F, a ∈ Ad (M1 ++ M2) ∨ H a = none) → Q (.ref pt) H'
theorem fil_nil {L : List Tri} {n : Nat} : ∀ t ∈ geL n L, t ∈ L := fun t m => (List.mem_filter.mp m).1
theorem ge0 (L : List Tri) : geL 0 L = L := by unfold geL; simp
theorem j_core (hT : T.me = none) (hO : ∀ d, trB d = true → c [.sh d] = ri (ordD d : Nat)) (hH : ∀ ds1 ds2 : List VL.D, trsB ds1 = true → trsB ds2 = true → ds1.length ≤ 100 → ds2.length ≤ 100 → (∀ d ∈ ds1 ++ ds2, ordD d ≤ 1000) → ∃ h : Int, -1 ≤ h ∧ h ≤ 1000 ∧ fHigh c [some (.sh (.list ds1)), some (.sh (.list ds2)), none, none, none, none, none, none, none] = ri h)
    {vs : List V} (h : spJ T vs H Q E) : ∃ x y, vs = [x, y] ∧ tJ T E K c { nx := fun _ H' => Q .non H', rt := Q } [some x, some y, none, none, none, none, none, none, none] H := by
  obtain ⟨p1, p2, M1, M2, rfl, h1, h2, tl, nd, n1, n2, no, q⟩ := h
  refine ⟨.ref p1, .ref p2, rfl, ?_⟩
  refine ⟨by simp, fun pf nf => ⟨by simp, fun pc nc => rd_c hT fun v H1 s1 dv => ?_⟩⟩
  rw [dv.intInv]
  refine ⟨_, _, _, rfl, ?_⟩
  have sA : SameH H (upd H pf (.lst [])) := sameH_new nf
  have sB : SameH (upd H pf (.lst [])) (upd (upd H pf (.lst [])) pc (.lst [])) := sameH_new nc
  have npc : pf ≠ pc := fun z => by rw [← z, upd_same] at nc; cases nc
  have s01 : SameH H H1 := (sA.trans sB).trans s1
  have hf1 : H1 pf = some (.lst []) := sameH_at s1 (by rw [upd_ne npc]; exact upd_same) nmL
  have hc1 : H1 pc = some (.lst []) := sameH_at s1 upd_same nmL
  have tl1 := tl.step s01
  have a1 : H1 p1 = some (.lst (M1.map (·.1))) := sameH_at s01 h1 nmL
  have a2 : H1 p2 = some (.lst (M2.map (·.1))) := sameH_at s01 h2 nmL
  obtain ⟨hi, b1, b2, eh⟩ := hH (M1.map (·.2.1)) (M2.map (·.2.1)) (tl_trs (tl.sub fun t m => List.mem_append_left _ m)) (tl_trs (tl.sub fun t m => List.mem_append_right _ m)) (by simpa using n1) (by simpa using n2) (fun d m => by
    rw [← List.map_append] at m
    obtain ⟨t, mt, rfl⟩ := List.mem_map.mp m
    exact no t mt)
  refine rd_sh (d := .int hi) hT [some (.list (M1.map (fun x : Tri => x.2.1))), some (.list (M2.map (fun x : Tri => x.2.1))), none, none, none, none, none, none, none] ⟨rfl, fun j z e => ?_⟩ eh fun v2 H2 s2 dv2 => ?_
  · match j, e with
    | 0, e => cases e; exact ⟨_, rfl, tl_lst (tl1.sub fun t m => List.mem_append_left _ m) a1⟩
    | 1, e => cases e; exact ⟨_, rfl, tl_lst (tl1.sub fun t m => List.mem_append_right _ m) a2⟩
    | 2, e => cases e
    | 3, e => cases e
    | 4, e => cases e
    | 5, e => cases e
    | 6, e => cases e
    | 7, e => cases e
    | 8, e => cases e
    | j + 9, e => simp at e
  rw [dv2.intInv]
  show tSeq _ _ _ [some (V.ref p1), some (V.ref p2), some (V.ref pf), some (V.ref pc), some (V.int 0), some (V.int hi), none, none, none] H2
  refine rd_sh (d := .int (hi + 2)) hT ((List.replicate 9 none).set 5 (some (.int hi))) (es9 5 rfl rfl Dq.int) (by simp [shE, List.replicate]) fun v3 H3 s3 dv3 => ?_
  rw [dv3.intInv]
  refine ⟨hi + 2, rfl, by omega, by omega, ?_⟩
  have s03 := (s01.trans s2).trans s3
  have s13 := s2.trans s3
  refine for_it walk_range (fun i σ Hc => i ≤ 2000 ∧ JI T H (M1 ++ M2) p1 p2 i σ Hc) ⟨by omega, ?_⟩ (fun _ _ _ _ _ => trivial) ?_ ?_
  · refine ⟨pf, pc, 0, _, _, _, _, [], [], rfl, s03, nf, sameH_at s13 hf1 nmL, sameH_at s13 hc1 nmL, ?_, ?_, ?_, ?_, (fun t m => nomatch m), by simp, by simp⟩
    · rw [ge0]; exact tl.step s03
    · rw [ge0]; exact nd
    · rw [ge0]; exact fun z => tl.at z nf
    · rw [ge0]; exact fun a m => .inl m
  · rintro i x σ Hc H' hi' ⟨li, J⟩ ⟨rfl, rfl⟩
    have li2 : i + 1 ≤ 2000 := by omega
    show tJBody T E K c _ (σ.set 6 (some (.int (0 + (i : Int))))) _
    rw [Int.zero_add]
    exact body_core hT hO h1 h2 tl n1 n2 no li J fun σ2 H2 J2 => ⟨li2, J2⟩
  · rintro σ Hc ⟨li, J⟩
    obtain ⟨pf', pc', n, x5, x6, x7, x8, F, C, rfl, s0, h0, hf, hc, tlF, ndF, nfF, ha, ho, lf, lc⟩ := J.ex
    refine ⟨_, rfl, _, rfl, by simp; exact Nat.le_of_lt (gl_line (by omega)), fun pt nt => ?_⟩
    have sT : SameH Hc (upd Hc pt (.tup [.ref pf', .int n])) := sameH_new nt
    rw [ad_app] at ndF nfF ha
    refine q pt pf' n F _ (s0.trans sT) (free_of s0 nt) h0 upd_same (sameH_at sT hf nmL) ((tlF.sub fun t m => List.mem_append_left _ m).step sT) ?_ fun a m => ha a (List.mem_append_left _ m)
    have nF : ∀ a ∈ Ad F, Hc a ≠ none := fun a m => (tlF.sub fun t m => List.mem_append_left _ m).at m
    refine List.nodup_cons.mpr ⟨fun z => ?_, List.nodup_cons.mpr ⟨fun z => nfF (List.mem_append_left _ z), ndF.sublist (List.sublist_append_left _ _)⟩⟩
    rcases List.mem_cons.mp z with z | z
    · rw [z, hf] at nt; cases nt
    · exact nF _ z nt
end
end VL
namespace VL
open PySem L2
/-! ### what a def told twice gives is one thing -/
def unV : Value → Option V
  | .none => some .non
  | .bool b => some (.bl b)
  | .int i _ => some (.int i)
  | .str x _ => some (.str x)
  | .bytes b _ => some (.byt b)
  | .float b _ => some (.flt b)
  | .ref a => some (.ref a)
  | .type n => some (.ty n)
  | _ => none
theorem unV_of : ∀ {v : V} {u : Value}, RelV v u → unV u = some v
  | .non, _, h => by cases h; rfl
  | .bl _, _, h => by cases h; rfl
  | .int _, _, h => by obtain ⟨t, rfl⟩ := h; rfl
  | .str _, _, h => by obtain ⟨t, rfl⟩ := h; rfl
  | .byt _, _, h => by obtain ⟨t, rfl⟩ := h; rfl
  | .flt _, _, h => by obtain ⟨t, rfl⟩ := h; rfl
  | .ref _, _, h => by cases h; rfl
  | .ty _, _, h => by cases h; rfl
theorem relV_one {v w : V} {u : Value} (h : RelV v u) (h' : RelV w u) : v = w := Option.some.inj ((unV_of h).symm.trans (unV_of h'))
theorem vals_one : ∀ {xs ys : List V} {its : List Value}, Vals xs its → Vals ys its → xs = ys
  | [], _, _, .nil, h' => by cases h'; rfl
  | _ :: _, _, _, .cons a b, h' => by
    cases h' with
    | cons a' b' => rw [relV_one a a', vals_one b b']
section
variable {P : Program} {w : World} {H1 H2 : Hp} {h : Heap} {a : Addr} {xs ys : List V}
theorem sqL_obj (hk : HOk P w H1 h) (s : SqL [] H1 a xs) : ∃ (its : List Value) (n : Nat), Vals xs its ∧ h.get? a = some { cls := .type "list", data := .seq its.toArray n } := by
  rcases s with (s | ⟨o, s⟩) | ⟨o, its, n, z, _⟩
  · exact (hk a _ s).2
  · exact (hk a _ s).2.2
  · cases z
theorem sqT_obj (hk : HOk P w H1 h) (s : SqT [] H1 a xs) : ∃ its : List Value, Vals xs its ∧ PyProof.Rows.IsTup h a its.toArray := by
  rcases s with (s | ⟨o, s⟩) | ⟨o, its, n, z, _⟩
  · exact (hk a _ s).2
  · exact (hk a _ s).2.2
  · cases z
end
mutual
theorem dp_two {P : Program} {w : World} {H1 H2 : Hp} {h : Heap} (h1 : HOk P w H1 h) (h2 : HOk P w H2 h) : ∀ (d e : D) (v : V), Dp [] H1 v d → Dp [] H2 v e → d = e
  | .none, _, _, h, h' => by cases h; cases h'; rfl
  | .bool _, _, _, h, h' => by cases h; cases h'; rfl
  | .int _, _, _, h, h' => by cases h; cases h'; rfl
  | .str _, _, _, h, h' => by cases h; cases h'; rfl
  | .dict _, _, _, h, _ => by cases h
  | .list ds, e, _, h, h' => by
    cases h with
    | lst s a =>
      cases h' with
      | lst s' a' =>
        obtain ⟨its, n, r1, e1⟩ := sqL_obj h1 s
        obtain ⟨its', n', r2, e2⟩ := sqL_obj h2 s'
        rw [e1] at e2
        cases e2
        have := vals_one r1 r2
        subst this
        rw [dpAll_two h1 h2 ds _ _ a a']
      | tup s' a' =>
        obtain ⟨its, n, r1, e1⟩ := sqL_obj h1 s
        obtain ⟨its', r2, o, z, y, _⟩ := sqT_obj h2 s'
        rw [e1] at z
        cases z
        have y : Value.type "list" = Value.type "tuple" := y
        exact absurd (Value.type.inj y) (by decide)
  | .tuple ds, e, _, h, h' => by
    cases h with
    | tup s a =>
      cases h' with
      | tup s' a' =>
        obtain ⟨its, r1, o, z, y, n, x⟩ := sqT_obj h1 s
        obtain ⟨its', r2, o', z', y', n', x'⟩ := sqT_obj h2 s'
        rw [z] at z'
        cases z'
        rw [x] at x'
        cases x'
        have := vals_one r1 r2
        subst this
        rw [dpAll_two h1 h2 ds _ _ a a']
      | lst s' a' =>
        obtain ⟨its, n, r1, e1⟩ := sqL_obj h2 s'
        obtain ⟨its', r2, o, z, y, _⟩ := sqT_obj h1 s
        rw [e1] at z
        cases z
        have y : Value.type "list" = Value.type "tuple" := y
        exact absurd (Value.type.inj y) (by decide)
theorem dpAll_two {P : Program} {w : World} {H1 H2 : Hp} {h : Heap} (h1 : HOk P w H1 h) (h2 : HOk P w H2 h) : ∀ (ds es : List D) (vs : List V), DpAll [] H1 vs ds → DpAll [] H2 vs es → ds = es
  | [], _, _, h, h' => by cases h; cases h'; rfl
  | d :: r, _, _, h, h' => by
    cases h with
    | cons a b =>
      cases h' with
      | cons a' b' => rw [dp_two h1 h2 d _ _ a a', dpAll_two h1 h2 r _ _ b b']
end
/-! ### a def's data and its places, told by one promise -/
/-- what it gives is new, its lists and tuples all unlike -/
def spLo (T : Ct) (cond : List SV → Prop) : Sp := fun vs H Q E => ∃ G as, Same G H ∧ NoMem G ∧ VRpAll T G vs as ∧ cond as ∧ ∀ v S d H', SameH H H' → S.Nodup → (∀ a ∈ S, H a = none) → RRp T Z0 H' S v (deepR d) → Q v H'
open Classical in
noncomputable def mRg (cond : List SV → Prop) (m : List SV → R) : List SV → R := fun as => if cond as then (match (m as).data with
  | some d => .val (.rg (deepR d))
  | none => .stuck) else .stuck
theorem mRg_ok {cond : List SV → Prop} {m : List SV → R} {as : List SV} {d : D} (h : cond as) (e : (m as).data = some d) : mRg cond m as = .val (.rg (deepR d)) := by
  unfold mRg
  rw [if_pos h, e]
theorem mRg_inv {T : Ct} {E : XK} {G H : Hp} {Q : VK} {cond : List SV → Prop} {m : List SV → R} {as : List SV} (h : Out T E (mRg cond m as) G H Q) : ∃ d, cond as ∧ (m as).data = some d ∧ Out T E (.val (.rg (deepR d))) G H Q := by
  unfold mRg at h
  split at h
  · rename_i c
    split at h
    · rename_i d e
      exact ⟨d, c, e, h⟩
    · exact h.elim
  · exact h.elim
theorem out_data {T : Ct} {E : XK} {G H : Hp} {Q : VK} {r : R} {d : D} (h : r.data = some d) (q : ∀ v H', SameH H H' → Dq H' v d → Q v H') : Out T E r G H Q := by
  cases r with
  | err c => cases h
  | stuck => cases h
  | val w =>
    cases w with
    | sh d' => cases h; exact fun v G' H' s dq => q v H' s.hh (dq.mono s.gh)
    | ow ds => cases h; exact fun p xs G' H' s _ _ e dq => q _ H' s.hh (Dq.lst (SqL.of e) (dq.mono s.gh))
    | ob c fs => cases h
    | rg r => exact fun v S G' H' s _ _ rr => q v H' s.hh (RRp.frz s.gh _ _ _ _ rr (fun _ _ => rfl) h)
theorem step_same {G H H' : Hp} (gh : Same G H) (n : NoMem G) (s : SameH H H') : Step G H G H' := ⟨s, Same.refl _, fun a o e => sameH_at s (gh a o e) (n a o e), fun _ a b => absurd a b, fun n => n⟩
theorem gd_and {P : Program} {w : World} {K : PySem.W.Frag} {mg : Str → Option Value} {bs : Heap} {T : Ct} {k : Nat} {f : Addr} {fd : FuncData} {ps : List Str} {n : Nat} {m : List SV → R} {cond : List SV → Prop}
    (A : FnGd P w K mg bs (L2.CX P w) k f fd ps (spV T n m)) (B : FnGd P w K mg bs (L2.CX P w) k f fd ps (spLo T cond)) : FnGd P w K mg bs (L2.CX P w) k f fd ps (spV T n (mRg cond m)) := by
  refine ⟨fun xs H Q E h => ?_, fun Ar ou s H ar us xs Q E hq hr e0 hb hv h => ?_⟩
  · obtain ⟨G, as, gh, nm, me, rp, l, o⟩ := h
    obtain ⟨d, c, e, o⟩ := mRg_inv o
    exact A.ln xs H (fun _ _ => True) E ⟨G, as, gh, nm, me, rp, l, out_data e fun _ _ _ _ => trivial⟩
  obtain ⟨G, as, gh, nm, me, rp, l, o⟩ := h
  obtain ⟨d, c, e, o⟩ := mRg_inv o
  have a1 := A.go Ar ou s H ar us xs (fun v H' => Dq H' v d) E hq hr e0 hb hv ⟨G, as, gh, nm, me, rp, l, out_data e fun v H' _ dq => dq⟩
  have a2 := B.go Ar ou s H ar us xs (fun v H' => ∃ S d2, SameH H H' ∧ S.Nodup ∧ (∀ a ∈ S, H a = none) ∧ RRp T Z0 H' S v (deepR d2)) E hq hr e0 hb hv ⟨G, as, gh, nm, rp, c, fun v S d2 H' s' nd nw r => ⟨S, d2, s', nd, nw, r⟩⟩
  refine codeAny_mono (code_and a1 a2) fun r s' ⟨r1, r2⟩ => ?_
  cases r with
  | error e => exact r1
  | ok fl =>
    cases fl with
    | next => exact r1
    | brk => exact r1
    | cont => exact r1
    | ret u =>
      obtain ⟨v1, H1, _, _, _, ok1, rv1, dq1⟩ := r1
      obtain ⟨v2, H2, os, br, un, ok2, rv2, S, d2, sh, nd, nw, rr⟩ := r2
      have ev := relV_one rv1 rv2
      subst ev
      have dq2 := (lo_dq rr).mono nM_same
      have ed := dp_two ok1 ok2 d d2 v1 dq1.dp dq2.dp
      subst ed
      exact ⟨v1, H2, os, br, un, ok2, rv2, o v1 S G H2 (step_same gh nm sh) nd (fun a ma => ⟨same_none gh (nw a ma), nw a ma⟩) (RRp.mono same_Z0 rfl rfl _ _ _ rr fun _ _ => rfl)⟩
end VL
namespace VL
open PySem L2
/-! ### copied -/
mutual
def tdep : D → Nat
  | .tuple [_, .list ds] => tdeps ds + 1
  | _ => 0
def tdeps : List D → Nat
  | [] => 0
  | d :: ds => max (tdep d) (tdeps ds)
end
theorem tdep_tup {x : D} {ds : List D} : tdep (.tuple [x, .list ds]) = tdeps ds + 1 := by rw [tdep]
theorem tdeps_mem : ∀ {ds : List D} {d : D}, d ∈ ds → tdep d ≤ tdeps ds
  | e :: ds, d, m => by
    rw [tdeps]
    rcases List.mem_cons.mp m with rfl | m
    · omega
    · have := tdeps_mem m; omega
theorem trsB_mem : ∀ {ds : List D} {d : D}, trsB ds = true → d ∈ ds → trB d = true
  | e :: ds, d, h, m => by
    rw [trsB, Bool.and_eq_true] at h
    rcases List.mem_cons.mp m with rfl | m
    · exact h.1
    · exact trsB_mem h.2 m
def spCp (T : Ct) (k : Nat) : Sp := fun vs H Q E => ∃ v d, vs = [v] ∧ trB d = true ∧ tdep d ≤ k ∧ Dq (nM H) v d ∧ ∀ v' S H', SameH H H' → S.Nodup → (∀ a ∈ S, H a = none) → RRp T Z0 H' S v' (deepR d) → Q v' H'
def tCpLc (T : Ct) (k : Nat) (ti : L2.TI) (j : Nat) : TE := tLc ti (gName j) (rdT T L2.E0 B0 (vC (.bool true))) (tCallS (spCp T k) (fun _ => L2.E0) (tCons (tVar j) tNil)) [j]
section
variable {T : Ct} {E EX : XK} {K : PySem.W.Frag} {G H H' H1 : Hp} {Q : VK} {c : List SV → R} {D : Ends} {σ : L2.St}
theorem rd_tc (hT : T.me = none) {P : Bool → Hp → Prop} (q : ∀ H', SameH H H' → P true H') : rdT T EX B0 (vC (.bool true)) σ H P :=
  rd_t (b := true) hT (σ.map fun _ => none) (es_none (by rw [List.length_map]) fun i d e => by
    rw [List.getElem?_map] at e
    cases q : σ[i]? with
    | none => rw [q] at e; cases e
    | some z => rw [q] at e; cases e) (by simp only [vC]) q
theorem cp_lc {k j : Nat} {l : Addr} {cs : List V} {ds : List VL.D} (hT : T.me = none) (hj : j < σ.length) (hs : SqL [] (nM H) l cs) (hq : DqAll (nM H) cs ds) (tr : trsB ds = true) (td : tdeps ds ≤ k) (ln : ds.length ≤ 20000)
    (q : ∀ D L H', SameH H H' → H D = none → H' D = some (.lst (L.map (·.1))) → L.map (fun t : Tri => t.2.1) = ds → TL T H' L → (D :: Ad L).Nodup → (∀ a ∈ Ad L, H a = none) → Q (.ref D) H') : tCpLc T k (fun _ H R => R (Itl K l) H) j σ H Q := by
  intro D nD
  have w := walk_list (K := K) (a := l) (xs := cs)
  refine lc_it w (fun i Hc => SameH H Hc ∧ ∃ L : List Tri, Hc D = some (.lst (L.map (·.1))) ∧ L.map (fun t : Tri => t.2.1) = ds.take i ∧ TL T Hc L ∧ (Ad L).Nodup ∧ (∀ a ∈ Ad L, H a = none) ∧ D ∉ Ad L) ⟨sameH_new nD, [], upd_same, rfl, (fun t m => nomatch m), by simp [Ad], (fun a m => by simp [Ad] at m), by simp [Ad]⟩ (fun i Hc _ p => ?_) ?_ ?_
  · exact sqL_K (((nM_step p.1).trans nM_same).seq hs)
  · rintro i x Hc H' hi ⟨sc, L, hD, hm, tl, nd, nw, nm⟩ ⟨rfl, ex⟩
    have hi' : i < ds.length := by rw [← hq.length]; exact hi
    obtain ⟨v, hv, dv⟩ := hq.get (List.getElem?_eq_getElem hi')
    rw [ex] at hv
    cases hv
    refine ⟨by simp [L2.wipe], rd_tc hT fun H3 s3 => ?_⟩
    rw [if_pos rfl]
    have sH3 := sc.trans s3
    refine ⟨x, by simp [L2.wipe, hj], x, ds[i], rfl, trsB_mem tr (List.getElem_mem hi'), Nat.le_trans (tdeps_mem (List.getElem_mem hi')) td, dv.mono (nM_step sH3), fun v' S H4 s4 ndS nwS rr => ?_⟩
    have hD4 := sameH_at (s3.trans s4) hD nmL
    have tl3 := tl.step s3
    have nDS : D ∉ S := fun z => by
      have := nwS D z
      rw [sameH_at s3 hD nmL] at this
      cases this
    have ll : L.length = i := by
      have := congrArg List.length hm
      rw [List.length_map, List.length_take] at this
      omega
    refine ⟨_, hD4, by rw [List.length_map]; exact gl_line (by omega), sameH_upd (sH3.trans s4) nD, L ++ [(v', ds[i], S)], by rw [upd_same, List.map_append]; rfl, ?_, ?_, ?_, ?_, ?_⟩
    · rw [List.map_append, hm, List.take_succ, List.getElem?_eq_getElem hi']; rfl
    · refine TL.upd (TL.append (tl3.step s4) fun t m => ?_) ?_
      · have := List.mem_singleton.mp m
        subst this
        exact ⟨trsB_mem tr (List.getElem_mem hi'), rr⟩
      · rw [ad_app, ad_cons, ad_nil, List.append_nil]
        exact fun z => (List.mem_append.mp z).elim nm nDS
    · rw [ad_app, ad_cons, ad_nil, List.append_nil]
      exact List.nodup_append.mpr ⟨nd, ndS, fun a m b n e => by subst e; exact tl3.at m (nwS a n)⟩
    · rw [ad_app, ad_cons, ad_nil, List.append_nil]
      exact fun a m => (List.mem_append.mp m).elim (nw a) fun z => free_of sH3 (nwS a z)
    · rw [ad_app, ad_cons, ad_nil, List.append_nil]
      exact fun z => (List.mem_append.mp z).elim nm nDS
  · rintro Hc ⟨sc, L, hD, hm, tl, nd, nw, nm⟩
    rw [hq.length, List.take_length] at hm
    exact q D L Hc sc nD hD hm tl (List.nodup_cons.mpr ⟨nm, nd⟩) nw
theorem cp_lcT {k j : Nat} {ti : L2.TI} {l : Addr} {cs : List V} {ds : List VL.D} (hT : T.me = none) (hti : ∀ R : It → Hp → Prop, (∀ H2, SameH H H2 → R (Itl K l) H2) → ti σ H R) (hj : j < σ.length) (hs : SqL [] (nM H) l cs) (hq : DqAll (nM H) cs ds) (tr : trsB ds = true) (td : tdeps ds ≤ k) (ln : ds.length ≤ 20000)
    (q : ∀ D L H', SameH H H' → H D = none → H' D = some (.lst (L.map (·.1))) → L.map (fun t : Tri => t.2.1) = ds → TL T H' L → (D :: Ad L).Nodup → (∀ a ∈ Ad L, H a = none) → Q (.ref D) H') : tCpLc T k ti j σ H Q := by
  refine hti _ fun H2 s2 => ?_
  have sm := nM_step s2
  have := cp_lc (T := T) (K := K) (k := k) (j := j) (σ := σ) (Q := Q) (H := H2) hT hj (sm.seq hs) (hq.mono sm) tr td ln fun D L H' s nD hD hm tl nd nw => q D L H' (s2.trans s) (free_of s2 nD) hD hm tl nd fun a m => free_of s2 (nw a m)
  exact this
theorem ti_var {i : Nat} {l : Addr} {cs : List V} (h : σ[i]? = some (some (.ref l))) (hs : SqL [] (nM H) l cs) : ∀ R : It → Hp → Prop, (∀ H2, SameH H H2 → R (Itl K l) H2) → iList K (tVar i) σ H R := fun R r => ⟨.ref l, h, l, rfl, ⟨cs, sqL_K (nM_same.seq hs)⟩, r H (SameH.refl _)⟩
def tCp (T : Ct) (E : XK) (K : PySem.W.Frag) (k : Nat) : TS := tRet (tTup (tCons (rdV T E B0 (op2 fIx (vVar 0) (vC (.int 0)))) (tCons (tCpLc T k (iList K (tOp (rIxT K) (tVar 0) (rdV T E B0 (vC (.int 1))))) 1) tNil)))
theorem cp_core {k : Nat} (hT : T.me = none) {vs : List V} (h : spCp T (k + 1) vs H Q E) : ∃ x, vs = [x] ∧ tCp T E K k { nx := fun _ H' => Q .non H', rt := Q } [some x, none] H := by
  obtain ⟨v, d, rfl, tr, td, dq, q⟩ := h
  refine ⟨v, rfl, ?_⟩
  obtain ⟨kk, ds, rfl, trs, ln⟩ := tr_inv tr
  rw [tdep_tup] at td
  have es : EsOk H [some (.tuple [.int kk, .list ds]), none] [some v, none] := ⟨rfl, fun i z e => by
    match i, e with
    | 0, e => cases e; exact ⟨v, rfl, dq⟩
    | 1, e => cases e
    | i + 2, e => simp at e⟩
  refine rd_sh (d := .int kk) hT [some (.tuple [.int kk, .list ds]), none] es (by simp [shE, at0D]) fun v0 H1 s1 d0 => ?_
  rw [d0.intInv]
  have dq1 := dq.mono (nM_step s1)
  obtain ⟨a, xs, rfl, sq, qs⟩ := dq1.tupInv
  obtain ⟨y1, ys, rfl, e1, qs⟩ := qs.inv
  obtain ⟨y2, ys, rfl, e2, qs⟩ := qs.inv
  cases qs.inv0
  obtain ⟨l, cs, rfl, sl, ql⟩ := e2.lstInv
  refine cp_lcT (K := K) (l := l) (cs := cs) (ds := ds) hT (fun R r => ⟨.ref a, rfl, rd_c hT fun v1 H2 s2 d1 => ?_⟩) (by simp) sl ql trs (by omega) ln fun D L H3 s3 nD hD hm tl nd nw => ?_
  · rw [d1.intInv]
    have sm := nM_step s2
    exact ⟨a, [y1, .ref l], 1, .ref l, rfl, rfl, sqT_K (same_seqT (sm.trans nM_same) sq), atI_nat (j := 1) rfl, l, rfl, ⟨cs, sqL_K ((sm.trans nM_same).seq sl)⟩, r H2 s2⟩
  refine ⟨by simp; exact Nat.le_of_lt (gl_line (by omega)), fun pt nt => ?_⟩
  have sT : SameH H3 (upd H3 pt (.tup [.int kk, .ref D])) := sameH_new nt
  have big := lo_mk (T := T) (H := upd H3 pt (.tup [.int kk, .ref D])) (ds := ds) (S := Ad L) upd_same (sameH_at sT hD nmL) (by
    have := tl_all (tl.step sT)
    rw [hm] at this
    exact this)
  refine q (.ref pt) (pt :: D :: Ad L) _ ((s1.trans s3).trans sT) (List.nodup_cons.mpr ⟨fun z => ?_, nd⟩) (fun b m => ?_) big
  · rcases List.mem_cons.mp z with z | z
    · rw [z, hD] at nt; cases nt
    · exact tl.at z nt
  · rcases List.mem_cons.mp m with m | m
    · subst m; exact free_of (s1.trans s3) nt
    · rcases List.mem_cons.mp m with m | m
      · subst m; exact free_of s1 nD
      · exact free_of s1 (nw b m)
end
end VL
namespace VL
open PySem L2
/-! ### pile_join, pile_put, pile_take -/
def kidsD : D → List D
  | .tuple [_, .list ds] => ds
  | _ => []
structure PlOk (k : Nat) (ds : List D) : Prop where
  tr : trsB ds = true
  ln : ds.length ≤ 90
  od : ∀ d ∈ ds, ordD d ≤ 90
  ki : ∀ d ∈ ds, ∀ e ∈ kidsD d, ordD e ≤ 90
  dp : tdeps ds ≤ k
section
variable {T : Ct} {E EX : XK} {K : PySem.W.Frag} {G H H' H1 : Hp} {Q : VK} {c : List SV → R} {D : Ends} {σ : L2.St}
theorem es_of {es : List (Option VL.D)} (hl : es.length = σ.length) (h : ∀ (i : Nat) (hi : i < es.length) d, es[i] = some d → ∃ v, σ[i]? = some (some v) ∧ Dq (nM H) v d) : EsOk H es σ := ⟨hl, fun i d e => by
  obtain ⟨hi, z⟩ := List.getElem?_eq_some_iff.mp e
  exact h i hi d z⟩
theorem q_end {v : V} {pf pt : Addr} {n : Int} {F : List Tri} (h1 : H' pt = some (.tup [.ref pf, .int n])) (h2 : H' pf = some (.lst (F.map (·.1)))) (tl : TL T H' F) : RRp T Z0 H' (pt :: pf :: Ad F) (.ref pt) (deepR (.tuple [.list (F.map (fun t : Tri => t.2.1)), .int n])) := by
  simp only [deepR, deepRs]
  have := RRp.tup (T := T) (G := Z0) h1 (.cons (.lst h2 (tl_all tl)) (.cons (.dat Dq.int) .nil))
  simpa using this
theorem q_end2 {v : V} {pf pt : Addr} {n : Int} {F : List Tri} (h1 : H' pt = some (.tup [.int n, .ref pf])) (h2 : H' pf = some (.lst (F.map (·.1)))) (tl : TL T H' F) : RRp T Z0 H' (pt :: pf :: Ad F) (.ref pt) (deepR (.tuple [.int n, .list (F.map (fun t : Tri => t.2.1))])) := by
  simp only [deepR, deepRs]
  have := RRp.tup (T := T) (G := Z0) h1 (.cons (.dat Dq.int) (.cons (.lst h2 (tl_all tl)) .nil))
  simpa using this
def cdJ (k : Nat) (cc cn : List SV → R) (as : List SV) : Prop := ∃ ds1 ds2, as = [.sh (.list ds1), .sh (.list ds2)] ∧ PlOk k ds1 ∧ PlOk k ds2 ∧ (∃ w, cc [.sh (.list ds1)] = .val w) ∧ (∃ w, cc [.sh (.list ds2)] = .val w) ∧ ∃ i j : Int, cn [.sh (.list ds1)] = ri i ∧ cn [.sh (.list ds2)] = ri j ∧ i + j ≤ 40
def tPJ (T : Ct) (E : XK) (K : PySem.W.Frag) (k : Nat) (cc cn : List SV → R) (tr : TS) : TS := tSeq (tDrop (rdV T E B0 (calF 1 cc [vVar 0]))) (tSeq (tDrop (rdV T E B0 (calF 1 cc [vVar 1]))) (tSeq (tIfS (rdT T E B0 (op2 fGt (op2 fAdd (calF 1 cn [vVar 0]) (calF 1 cn [vVar 1])) (vC (.int 40)))) tr tNext)
  (tRet (tCallS (spJ T) (fun _ => E) (tCons (tCpLc T k (iList K (tVar 0)) 2) (tCons (tCpLc T k (iList K (tVar 1)) 2) tNil))))))
theorem nM_of (gh : Same G H) (n : NoMem G) : Same G (nM H) := fun a o e => (nM_at (gh a o e) (n a o e)).trans (gh a o e)
theorem pj_core {k : Nat} {cc cn : List SV → R} {tr : TS} (hT : T.me = none) {vs : List V} (h : spLo T (cdJ k cc cn) vs H Q E) : ∃ x y, vs = [x, y] ∧ tPJ T E K k cc cn tr { nx := fun _ H' => Q .non H', rt := Q } [some x, some y, none] H := by
  obtain ⟨G, as, gh, nm, rp, ⟨ds1, ds2, rfl, k1, k2, ⟨w1, c1⟩, ⟨w2, c2⟩, i, j, n1, n2, hij⟩, q⟩ := h
  cases rp with
  | cons r1 rp =>
    cases rp with
    | cons r2 rp =>
      cases rp
      rename_i x y
      have r1 : Dq G x (.list ds1) := r1
      have r2 : Dq G y (.list ds2) := r2
      refine ⟨x, y, rfl, ?_⟩
      have e1 := r1.mono (nM_of gh nm)
      have e2 := r2.mono (nM_of gh nm)
      have es : EsOk H [some (.list ds1), some (.list ds2), none] [some x, some y, none] := ⟨rfl, fun i z e => by
        match i, e with
        | 0, e => cases e; exact ⟨x, rfl, e1⟩
        | 1, e => cases e; exact ⟨y, rfl, e2⟩
        | 2, e => cases e
        | i + 3, e => simp at e⟩
      refine rd_any (w := w1) hT _ es (by simp [shE, c1]) fun _ H1 s1 => ?_
      refine rd_any (w := w2) hT _ (es.step s1) (by simp [shE, c2]) fun _ H2 s2 => ?_
      have s02 := s1.trans s2
      refine rd_t (b := false) hT _ (es.step s02) (by simp [shE, n1, n2]; omega) fun H3 s3 => ?_
      simp only [Bool.false_eq_true, if_false]
      dsimp only [tNext, tRet, tCallS, tCons]
      have s03 := s02.trans s3
      obtain ⟨l1, cs1, rfl, q1, z1⟩ := (e1.mono (nM_step s03)).lstInv
      refine cp_lcT (k := k) (j := 2) (σ := [some (.ref l1), some y, none]) (K := K) hT (ti_var (i := 0) rfl q1) (by simp) q1 z1 k1.tr k1.dp (by have := k1.ln; omega) fun D1 L1 H4 s4 nD1 hD1 hm1 tl1 nd1 nw1 => ?_
      obtain ⟨l2, cs2, rfl, q2, z2⟩ := (e2.mono (nM_step (s03.trans s4))).lstInv
      refine cp_lcT (k := k) (j := 2) (σ := [some (.ref l1), some (.ref l2), none]) (K := K) hT (ti_var (i := 1) rfl q2) (by simp) q2 z2 k2.tr k2.dp (by have := k2.ln; omega) fun D2 L2 H5 s5 nD2 hD2 hm2 tl2 nd2 nw2 => ?_
      have tl1' := tl1.step s5
      have len1 : L1.length ≤ 100 := by
        have := congrArg List.length hm1
        rw [List.length_map] at this
        have := k1.ln; omega
      have len2 : L2.length ≤ 100 := by
        have := congrArg List.length hm2
        rw [List.length_map] at this
        have := k2.ln; omega
      have ndA : (Ad (L1 ++ L2)).Nodup := by
        rw [ad_app]
        exact List.nodup_append.mpr ⟨(List.nodup_cons.mp nd1).2, (List.nodup_cons.mp nd2).2, fun a m b n e => by subst e; exact tl1.at m (nw2 a n)⟩
      have nwA : ∀ a ∈ Ad (L1 ++ L2), H a = none := fun a m => by
        rw [ad_app] at m
        rcases List.mem_append.mp m with m | m
        · exact free_of s03 (nw1 a m)
        · exact free_of (s03.trans s4) (nw2 a m)
      have s05 := (s03.trans s4).trans s5
      refine ⟨D1, D2, L1, L2, rfl, sameH_at s5 hD1 nmL, hD2, TL.append tl1' tl2, ndA, len1, len2, fun t m => ?_, fun pt pf n F H6 s6 np1 np2 a1 a2 tlF ndF ha => ?_⟩
      · rcases List.mem_append.mp m with m | m
        · have := k1.od t.2.1 (by rw [← hm1]; exact List.mem_map.mpr ⟨t, m, rfl⟩); omega
        · have := k2.od t.2.1 (by rw [← hm2]; exact List.mem_map.mpr ⟨t, m, rfl⟩); omega
      · refine q (.ref pt) (pt :: pf :: Ad F) _ H6 (s05.trans s6) ndF (fun a m => ?_) (q_end (v := .non) a1 a2 tlF)
        rcases List.mem_cons.mp m with m | m
        · subst m; exact free_of s05 np1
        · rcases List.mem_cons.mp m with m | m
          · subst m; exact free_of s05 np2
          · exact (ha a m).elim (nwA a) (free_of s05)
/-! pile_put -/
def cdP (k : Nat) (cc ck cn : List SV → R) (as : List SV) : Prop := ∃ ds x, as = [.sh (.list ds), .sh (.int x)] ∧ PlOk k ds ∧ (∃ w, cc [.sh (.list ds)] = .val w) ∧ (∃ w, ck [.sh (.int x)] = .val w) ∧ ∃ i : Int, cn [.sh (.list ds)] = ri i ∧ i + 1 ≤ 40
def tPP (T : Ct) (E : XK) (K : PySem.W.Frag) (k : Nat) (cc ck cn : List SV → R) (tr : TS) : TS := tSeq (tDrop (rdV T E B0 (calF 1 cc [vVar 0]))) (tSeq (tDrop (rdV T E B0 (calF 1 ck [vVar 1]))) (tSeq (tIfS (rdT T E B0 (op2 fGt (op2 fAdd (calF 1 cn [vVar 0]) (vC (.int 1))) (vC (.int 40)))) tr tNext)
  (tRet (tCallS (spJ T) (fun _ => E) (tCons (tCpLc T k (iList K (tVar 0)) 2) (tCons (tLst (tCons (tTup (tCons (tVar 1) (tCons (tLst tNil) tNil))) tNil)) tNil))))))
theorem pp_core {k : Nat} {cc ck cn : List SV → R} {tr : TS} (hT : T.me = none) {vs : List V} (h : spLo T (cdP k cc ck cn) vs H Q E) : ∃ x y, vs = [x, y] ∧ tPP T E K k cc ck cn tr { nx := fun _ H' => Q .non H', rt := Q } [some x, some y, none] H := by
  obtain ⟨G, as, gh, nm, rp, ⟨ds1, ky, rfl, k1, ⟨w1, c1⟩, ⟨w2, c2⟩, i, n1, hij⟩, q⟩ := h
  cases rp with
  | cons r1 rp =>
    cases rp with
    | cons r2 rp =>
      cases rp
      rename_i x y
      have r1 : Dq G x (.list ds1) := r1
      have r2 : Dq G y (.int ky) := r2
      refine ⟨x, y, rfl, ?_⟩
      have ey := r2.intInv
      subst ey
      have e1 := r1.mono (nM_of gh nm)
      have es : EsOk H [some (.list ds1), some (.int ky), none] [some x, some (.int ky), none] := ⟨rfl, fun i z e => by
        match i, e with
        | 0, e => cases e; exact ⟨x, rfl, e1⟩
        | 1, e => cases e; exact ⟨.int ky, rfl, Dq.int⟩
        | 2, e => cases e
        | i + 3, e => simp at e⟩
      refine rd_any (w := w1) hT _ es (by simp [shE, c1]) fun _ H1 s1 => ?_
      refine rd_any (w := w2) hT _ (es.step s1) (by simp [shE, c2]) fun _ H2 s2 => ?_
      have s02 := s1.trans s2
      refine rd_t (b := false) hT _ (es.step s02) (by simp [shE, n1]; omega) fun H3 s3 => ?_
      simp only [Bool.false_eq_true, if_false]
      dsimp only [tNext, tRet, tCallS, tCons]
      have s03 := s02.trans s3
      obtain ⟨l1, cs1, rfl, q1, z1⟩ := (e1.mono (nM_step s03)).lstInv
      refine cp_lcT (k := k) (j := 2) (σ := [some (.ref l1), some (.int ky), none]) (K := K) hT (ti_var (i := 0) rfl q1) (by simp) q1 z1 k1.tr k1.dp (by have := k1.ln; omega) fun D1 L1 H4 s4 nD1 hD1 hm1 tl1 nd1 nw1 => ?_
      refine ⟨.int ky, rfl, by simp, fun pe ne => ⟨by simp; exact Nat.le_of_lt (gl_line (by omega)), fun pt nt => ⟨by simp; exact Nat.le_of_lt (gl_line (by omega)), fun pl nl => ?_⟩⟩⟩
      have sa : SameH H4 (upd H4 pe (.lst [])) := sameH_new ne
      have sb : SameH (upd H4 pe (.lst [])) (upd (upd H4 pe (.lst [])) pt (.tup [.int ky, .ref pe])) := sameH_new nt
      have sc : SameH (upd (upd H4 pe (.lst [])) pt (.tup [.int ky, .ref pe])) (upd (upd (upd H4 pe (.lst [])) pt (.tup [.int ky, .ref pe])) pl (.lst [.ref pt])) := sameH_new nl
      have b1 := sameH_at (sb.trans sc) (upd_same (H := H4) (a := pe) (o := .lst [])) nmL
      have b2 := sameH_at sc (upd_same (H := upd H4 pe (.lst [])) (a := pt) (o := .tup [.int ky, .ref pe])) nmT
      have b3 := upd_same (H := upd (upd H4 pe (.lst [])) pt (.tup [.int ky, .ref pe])) (a := pl) (o := .lst [.ref pt])
      have sx := (sa.trans sb).trans sc
      have npe : pt ≠ pe := fun z => by rw [z, upd_same] at nt; cases nt
      have nt4 : H4 pt = none := free_of sa nt
      revert b1 b2 b3 sx
      generalize upd (upd (upd H4 pe (.lst [])) pt (.tup [.int ky, .ref pe])) pl (.lst [.ref pt]) = H5
      intro b1 b2 b3 sx
      have leaf := lo_mk (T := T) (ds := []) (S := []) b2 b1 (by rw [deepRs]; exact .nil)
      have len1 : L1.length ≤ 100 := by
        have := congrArg List.length hm1
        rw [List.length_map] at this
        have := k1.ln; omega
      have ndA : (Ad (L1 ++ [(V.ref pt, PyData.tuple [.int ky, .list []], [pt, pe])])).Nodup := by
        rw [ad_app, ad_cons, ad_nil, List.append_nil]
        refine List.nodup_append.mpr ⟨(List.nodup_cons.mp nd1).2, by simp [npe], fun a m b n e => ?_⟩
        subst e
        simp only [List.mem_cons, List.not_mem_nil, or_false] at n
        rcases n with n | n
        · subst n; exact tl1.at m nt4
        · subst n; exact tl1.at m ne
      have s04 := s03.trans s4
      have nwA : ∀ a ∈ Ad (L1 ++ [(V.ref pt, PyData.tuple [.int ky, .list []], [pt, pe])]), H a = none := fun a m => by
        rw [ad_app, ad_cons, ad_nil, List.append_nil] at m
        rcases List.mem_append.mp m with m | m
        · exact free_of s03 (nw1 a m)
        · simp only [List.mem_cons, List.not_mem_nil, or_false] at m
          rcases m with m | m
          · subst m; exact free_of s04 nt4
          · subst m; exact free_of s04 ne
      have s05 := s04.trans sx
      refine ⟨D1, pl, L1, [(V.ref pt, PyData.tuple [.int ky, .list []], [pt, pe])], rfl, sameH_at sx hD1 nmL, b3, TL.append (tl1.step sx) (fun t m => ?_), ndA, len1, by simp, fun t m => ?_, fun pt pf n F H6 s6 np1 np2 a1 a2 tlF ndF ha => ?_⟩
      · have := List.mem_singleton.mp m
        subst this
        exact ⟨by rw [trB_tup]; simp [trsB], leaf⟩
      · rcases List.mem_append.mp m with m | m
        · have := k1.od t.2.1 (by rw [← hm1]; exact List.mem_map.mpr ⟨t, m, rfl⟩); omega
        · have := List.mem_singleton.mp m
          subst this
          simp [ordD]
      · refine q (.ref pt) (pt :: pf :: Ad F) _ H6 (s05.trans s6) ndF (fun a m => ?_) (q_end (v := .non) a1 a2 tlF)
        rcases List.mem_cons.mp m with m | m
        · subst m; exact free_of s05 np1
        · rcases List.mem_cons.mp m with m | m
          · subst m; exact free_of s05 np2
          · exact (ha a m).elim (nwA a) (free_of s05)
end
end VL
namespace VL
open PySem L2
/-! ### pile_take -/
def keyD : D → D
  | .tuple (k :: _) => k
  | _ => .none
def fAt : FE := vIdx (vVar 2) (cal1 fMin1 (vVar 2))
def fTops : FE := vLc [6] (tgN 6) (itD iL (vVar 1)) (vC (.bool true)) (op2 fIx (vVar 6) (vC (.int 0)))
theorem lc_keys {env : VEnv} (he : env.length = 7) : ∀ {ds : List D}, trsB ds = true → lcGo (tgN 6) (vC (.bool true)) (op2 fIx (vVar 6) (vC (.int 0))) env ds = some (ds.map keyD)
  | [], _ => rfl
  | d :: ds, h => by
    rw [trsB, Bool.and_eq_true] at h
    obtain ⟨k, cs, rfl, _, _⟩ := tr_inv h.1
    unfold lcGo
    have e6 : (env.set 6 (some (SV.sh (.tuple [.int k, .list cs]))))[6]? = some (some (.sh (.tuple [.int k, .list cs]))) := List.getElem?_set_self (by omega)
    simp [e6, at0D, lc_keys he h.2, keyD]
def cdT (k : Nat) (cc : List SV → R) (as : List SV) : Prop := ∃ ds, as = [.sh (.list ds)] ∧ PlOk k ds ∧ ds ≠ [] ∧ (∃ w, cc [.sh (.list ds)] = .val w) ∧ ∃ j : Nat, j < ds.length ∧ fAt [none, none, some (.sh (.list (ds.map keyD))), none, none, none, none] = ri (j : Nat)
def tPT (T : Ct) (E : XK) (K : PySem.W.Frag) (k : Nat) (cc : List SV → R) (tr : TS) : TS := tSeq (tDrop (rdV T E B0 (calF 1 cc [vVar 0]))) (tSeq (tIfS (rdT T E B0 (op2 fEq (vVar 0) (vLst []))) tr tNext) (tSeq (tAsg (tCpLc T k (iList K (tVar 0)) 6) (gName 1)) (tSeq (tAsg (rdV T E B0 fTops) (gName 2))
  (tSeq (tAsg (rdV T E B0 fAt) (gName 3)) (tSeq (tAsg (tCallS (spJ T) (fun _ => E) (tCons (tOp rCatR (tSl (rSlL K) (tVar 1) tNoPart (tPart (rdV T E B0 (vVar 3)))) (tSl (rSlL K) (tVar 1) (tPart (rdV T E B0 (op2 fAdd (vVar 3) (vC (.int 1))))) tNoPart))
    (tCons (tRevL K (tOp (rIxT K) (tOp (rIxL K) (tVar 1) (rdV T E B0 (vVar 3))) (rdV T E B0 (vC (.int 1))))) tNil))) (gTup K 2 (gCons (gName 4) (gCons (gName 5) gNil)))) (tRet (tTup (tCons (rdV T E B0 (op2 fIx (vVar 2) (vVar 3))) (tCons (tVar 4) tNil)))))))))
section
variable {T : Ct} {E EX : XK} {K : PySem.W.Frag} {G H H' H1 : Hp} {Q : VK} {c : List SV → R} {D : Ends} {σ : L2.St}
theorem es7 {σ : L2.St} (i : Nat) {v : V} {d : VL.D} (hl : σ.length = 7) (hi : σ[i]? = some (some v)) (h : Dq (nM H) v d) : EsOk H ((List.replicate 7 none).set i (some d)) σ := ⟨by simp [hl], fun j z q => by
  by_cases e : i = j
  · subst e
    have hb : i < 7 := by
      have := (List.getElem?_eq_some_iff.mp hi).1
      omega
    rw [List.getElem?_set_self (by simpa using hb)] at q
    cases q
    exact ⟨v, hi, h⟩
  · rw [List.getElem?_set_ne e] at q
    rw [List.getElem?_replicate] at q
    split at q <;> cases q⟩
theorem es7b {σ : L2.St} (i j : Nat) {v w : V} {d e : VL.D} (hl : σ.length = 7) (hi : σ[i]? = some (some v)) (hj : σ[j]? = some (some w)) (h : Dq (nM H) v d) (h2 : Dq (nM H) w e) : EsOk H (((List.replicate 7 none).set i (some d)).set j (some e)) σ := ⟨by simp [hl], fun l z q => by
  by_cases ej : j = l
  · subst ej
    have hb : j < 7 := by
      have := (List.getElem?_eq_some_iff.mp hj).1
      omega
    rw [List.getElem?_set_self (by simpa using hb)] at q
    cases q
    exact ⟨w, hj, h2⟩
  · rw [List.getElem?_set_ne ej] at q
    exact (es7 i hl hi h).rd l z q⟩
theorem cutV_lo {xs : List V} {j : Nat} (h : j ≤ xs.length) : cutV xs none (some (j : Int)) = xs.take j := by
  unfold cutV HT.sIx
  simp only [if_neg (show ¬ ((j : Int) < 0) by omega)]
  simp [Nat.min_eq_left h]
theorem cutV_hi {xs : List V} {j : Nat} (h : j ≤ xs.length) : cutV xs (some (j : Int)) none = xs.drop j := by
  unfold cutV HT.sIx
  simp only [if_neg (show ¬ ((j : Int) < 0) by omega)]
  simp [Nat.min_eq_left h]
  exact List.take_of_length_le (by simp)
theorem pt_core {k : Nat} {cc : List SV → R} {tr : TS} (hT : T.me = none) {vs : List V} (h : spLo T (cdT k cc) vs H Q E) : ∃ x, vs = [x] ∧ tPT T E K k cc tr { nx := fun _ H' => Q .non H', rt := Q } [some x, none, none, none, none, none, none] H := by
  obtain ⟨G, as, gh, nm, rp, ⟨ds, rfl, k1, ne, ⟨w1, c1⟩, j, hj, ea⟩, q⟩ := h
  cases rp with
  | cons r1 rp =>
    cases rp
    rename_i x
    have r1 : Dq G x (.list ds) := r1
    refine ⟨x, rfl, ?_⟩
    have e1 := r1.mono (nM_of gh nm)
    have es := es7 (σ := [some x, none, none, none, none, none, none]) 0 rfl rfl e1
    refine rd_any (w := w1) hT _ es (by simp [shE, List.replicate, c1]) fun _ H1 s1 => ?_
    refine rd_t (b := false) hT _ (es.step s1) ?_ fun H2 s2 => ?_
    · cases ds with
      | nil => exact absurd rfl ne
      | cons d r => simp [shE, List.replicate, fEq, PyData.depth, PyData.depthAll, PyData.eqv, PyData.eqvAll]; try omega
    simp only [Bool.false_eq_true, if_false]
    have s02 := s1.trans s2
    obtain ⟨l, cs, rfl, q1, z1⟩ := (e1.mono (nM_step s02)).lstInv
    dsimp only [tNext, tSeq, tAsg]
    refine cp_lcT (k := k) (j := 6) (σ := [some (.ref l), none, none, none, none, none, none]) (K := K) hT (ti_var (i := 0) rfl q1) (by simp) q1 z1 k1.tr k1.dp (by have := k1.ln; omega) fun D1 L H3 s3 nD1 hD1 hm tl nd nw => ?_
    have s03 := s02.trans s3
    have ll : L.length = ds.length := by
      have := congrArg List.length hm
      rw [List.length_map] at this
      exact this
    have dL := tl_lst tl hD1
    rw [hm] at dL
    refine rd_ow (ds := ds.map keyD) hT _ (es7 (σ := [some (.ref l), some (.ref D1), none, none, none, none, none]) 1 rfl rfl dL) ?_ fun p2 xs H4 s4 n2 hp2 dk => ?_
    · have := k1.ln
      have z := lc_keys (env := [none, some (SV.sh (.list ds)), none, none, none, none, none]) rfl k1.tr
      simp [fTops, shE, List.replicate, z]
      omega
    show tSeq _ _ _ [some (.ref l), some (.ref D1), some (.ref p2), none, none, none, none] H4
    have dT : Dq (nM H4) (.ref p2) (.list (ds.map keyD)) := Dq.lst (SqL.of ((nM_at hp2 nmL).trans hp2)) dk
    refine rd_sh (d := .int (j : Nat)) hT _ (es7 (σ := [some (.ref l), some (.ref D1), some (.ref p2), none, none, none, none]) 2 rfl rfl dT) ea fun v5 H5 s5 d5 => ?_
    rw [d5.intInv]
    show tSeq _ _ _ [some (.ref l), some (.ref D1), some (.ref p2), some (.int (j : Nat)), none, none, none] H5
    have s35 := s4.trans s5
    have tl5 := tl.step s35
    have hD5 := sameH_at s35 hD1 nmL
    have jl : j < L.length := by omega
    have rdj : ∀ {Hx : Hp} {Qx : VK}, (∀ H', SameH Hx H' → Qx (.int (j : Nat)) H') → rdV T E B0 (vVar 3) [some (.ref l), some (.ref D1), some (.ref p2), some (.int (j : Nat)), none, none, none] Hx Qx := fun {Hx Qx} z => rd_sh (d := .int (j : Nat)) hT _ (es7 (σ := [some (.ref l), some (.ref D1), some (.ref p2), some (.int (j : Nat)), none, none, none]) 3 rfl rfl Dq.int) (by simp [shE, List.replicate]) fun v H' s' d' => by
      rw [d'.intInv]; exact z H' s'
    refine ⟨.ref D1, rfl, rdj fun H6 s6 => ⟨(j : Nat), rfl, D1, _, rfl, .inl (.inl (sameH_at s6 hD5 nmL)), fun pa na => ?_⟩⟩
    rw [cutV_lo (by rw [List.length_map]; omega)]
    have sA : SameH H6 (upd H6 pa (.lst ((L.map (·.1)).take j))) := sameH_new na
    have hA : upd H6 pa (.lst ((L.map (·.1)).take j)) pa = some (.lst ((L.take j).map (·.1))) := by rw [upd_same, List.map_take]
    revert sA hA
    generalize upd H6 pa (.lst ((L.map (·.1)).take j)) = H7
    intro sA hA
    have s57 := s6.trans sA
    refine ⟨.ref D1, rfl, rd_sh (d := .int ((j + 1 : Nat) : Int)) hT _ (es7 (σ := [some (.ref l), some (.ref D1), some (.ref p2), some (.int (j : Nat)), none, none, none]) 3 rfl rfl Dq.int) (by simp [shE, List.replicate]) fun v8 H8 s8 d8 => ?_⟩
    rw [d8.intInv]
    refine ⟨((j + 1 : Nat) : Int), rfl, D1, _, rfl, .inl (.inl (sameH_at (s57.trans s8) hD5 nmL)), fun pb nb => ?_⟩
    rw [cutV_hi (by rw [List.length_map]; omega)]
    have sB : SameH H8 (upd H8 pb (.lst ((L.map (·.1)).drop (j + 1)))) := sameH_new nb
    have hB : upd H8 pb (.lst ((L.map (·.1)).drop (j + 1))) pb = some (.lst ((L.drop (j + 1)).map (·.1))) := by rw [upd_same, List.map_drop]
    revert sB hB
    generalize upd H8 pb (.lst ((L.map (·.1)).drop (j + 1))) = H9
    intro sB hB
    have lT : (L.take j).length + (L.drop (j + 1)).length ≤ 90 := by
      have := k1.ln
      rw [List.length_take, List.length_drop]
      omega
    refine ⟨pa, pb, _, _, rfl, rfl, .inl (.inl (sameH_at (s8.trans sB) hA nmL)), .inl (.inl hB), by rw [List.length_map, List.length_map]; exact Nat.le_of_lt (gl_line (by omega)), fun pc nc => ?_⟩
    have sC : SameH H9 (upd H9 pc (.lst ((L.take j).map (·.1) ++ (L.drop (j + 1)).map (·.1)))) := sameH_new nc
    have hC : upd H9 pc (.lst ((L.take j).map (·.1) ++ (L.drop (j + 1)).map (·.1))) pc = some (.lst ((L.take j ++ L.drop (j + 1)).map (·.1))) := by rw [upd_same, List.map_append]
    revert sC hC
    generalize upd H9 pc (.lst ((L.take j).map (·.1) ++ (L.drop (j + 1)).map (·.1))) = H10
    intro sC hC
    have s510 := ((s57.trans s8).trans sB).trans sC
    refine ⟨.ref D1, rfl, rdj fun H11 s11 => ?_⟩
    have s511 := s510.trans s11
    refine ⟨D1, _, (j : Nat), L[j].1, rfl, rfl, .inl (.inl (sameH_at s511 hD5 nmL)), atI_nat (by rw [List.getElem?_map, List.getElem?_eq_getElem jl]; rfl), rd_c hT fun v12 H12 s12 d12 => ?_⟩
    rw [d12.intInv]
    have s512 := s511.trans s12
    have tl12 := tl5.step s512
    obtain ⟨tj, lj⟩ := tl12 _ (List.getElem_mem jl)
    obtain ⟨kk, cds, a, la, cs', Sc, ed, tds, ev, ha, hl, hcs, eS⟩ := lo_tree lj tj
    rw [ev]
    refine ⟨a, _, 1, .ref la, rfl, rfl, .inl (.inl ha), atI_nat (j := 1) rfl, la, cs', rfl, .inl (.inl hl), fun pr nr => ?_⟩
    obtain ⟨Lc, f1, f2, f3, f4⟩ := tl_of hcs tds
    have sR : SameH H12 (upd H12 pr (.lst cs'.reverse)) := sameH_new nr
    have hR : upd H12 pr (.lst cs'.reverse) pr = some (.lst (Lc.reverse.map (·.1))) := by rw [upd_same, List.map_reverse, f1]
    revert sR hR
    generalize upd H12 pr (.lst cs'.reverse) = H13
    intro sR hR
    have s513 := s512.trans sR
    have spl : L = L.take j ++ (L[j] :: L.drop (j + 1)) := by
      rw [← List.drop_eq_getElem_cons jl, List.take_append_drop]
    have adL : Ad L = Ad (L.take j) ++ (a :: la :: Ad Lc ++ Ad (L.drop (j + 1))) := by
      conv => lhs; rw [spl]
      rw [ad_app, ad_cons, eS, f3]
    have ndL := (List.nodup_cons.mp nd).2
    have pA : (Ad ((L.take j ++ L.drop (j + 1)) ++ Lc.reverse)).Perm (Ad (L.take j) ++ (Ad Lc ++ Ad (L.drop (j + 1)))) := by
      rw [ad_app, ad_app, List.append_assoc]
      refine List.Perm.append_left _ ?_
      exact (List.perm_append_comm).trans ((ad_perm (List.reverse_perm Lc)).append_right _)
    have sbl : (Ad (L.take j) ++ (Ad Lc ++ Ad (L.drop (j + 1)))).Sublist (Ad L) := by
      rw [adL]
      refine List.Sublist.append_left ?_ _
      exact List.Sublist.trans (List.sublist_cons_self _ _) (List.sublist_cons_self _ _)
    have nwA : ∀ b ∈ Ad ((L.take j ++ L.drop (j + 1)) ++ Lc.reverse), H b = none := fun b m => free_of s02 (nw b (sbl.subset (pA.subset m)))
    have s0x := (s03.trans s35).trans s513
    have inL : ∀ d ∈ ds, ∃ t ∈ L, t.2.1 = d := fun d m => by rw [← hm] at m; exact List.mem_map.mp m
    have mL : ∀ t ∈ L, t.2.1 ∈ ds := fun t m => by rw [← hm]; exact List.mem_map.mpr ⟨t, m, rfl⟩
    have lLc : Lc.length = ordD L[j].2.1 := by
      have := congrArg List.length f2
      rw [List.length_map] at this
      rw [ed]
      exact this
    have oj := k1.od _ (mL _ (List.getElem_mem jl))
    have kj := k1.ki _ (mL _ (List.getElem_mem jl))
    refine ⟨pc, pr, L.take j ++ L.drop (j + 1), Lc.reverse, rfl, sameH_at ((s11.trans s12).trans sR) hC nmL, hR, TL.append ((tl5.step s513).sub fun t m => ?_) ((f4.step sR).sub fun t m => List.mem_reverse.mp m), pA.nodup_iff.mpr (ndL.sublist sbl), by rw [List.length_append]; omega, by rw [List.length_reverse]; omega, fun t m => ?_, fun pt pf n F H14 s14 np1 np2 a1 a2 tlF ndF hF => ?_⟩
    · rcases List.mem_append.mp m with m | m
      · exact List.mem_of_mem_take m
      · exact List.mem_of_mem_drop m
    · rcases List.mem_append.mp m with m | m
      · have : t ∈ L := (List.mem_append.mp m).elim List.mem_of_mem_take List.mem_of_mem_drop
        have := k1.od _ (mL t this)
        omega
      · have m := List.mem_reverse.mp m
        have := kj t.2.1 (by rw [ed]; show t.2.1 ∈ cds; rw [← f2]; exact List.mem_map.mpr ⟨t, m, rfl⟩)
        omega
    · refine ⟨pt, _, rfl, .inl (.inl a1), rfl, .ref pf, _, rfl, .int n, _, rfl, rfl, ?_⟩
      have s5e := s513.trans s14
      have dT5 := dT.mono (nM_step (s5.trans s5e))
      have kyj : (ds.map keyD)[j]? = some (.int kk) := by
        have : ds[j]? = some L[j].2.1 := by rw [← hm, List.getElem?_map, List.getElem?_eq_getElem jl]; rfl
        rw [List.getElem?_map, this, ed]
        rfl
      refine rd_sh (d := .int kk) hT _ (es7b (σ := [some (.ref l), some (.ref D1), some (.ref p2), some (.int (j : Nat)), some (.ref pf), some (.int n), none]) 2 3 rfl rfl rfl dT5 Dq.int) ?_ fun v15 H15 s15 d15 => ?_
      · have := atI_nat kyj
        simp [shE, List.replicate, this]
      rw [d15.intInv]
      refine ⟨.ref pf, rfl, by simp; exact Nat.le_of_lt (gl_line (by omega)), fun pq nq => ?_⟩
      have sQ : SameH H15 (upd H15 pq (.tup [.int kk, .ref pf])) := sameH_new nq
      have a2' := sameH_at (s15.trans sQ) a2 nmL
      have tlF' := tlF.step (s15.trans sQ)
      refine q (.ref pq) (pq :: pf :: Ad F) _ _ ((s0x.trans s14).trans (s15.trans sQ)) (List.nodup_cons.mpr ⟨fun z => ?_, (List.nodup_cons.mp ndF).2⟩) (fun b m => ?_) (q_end2 (v := .non) upd_same a2' tlF')
      · rcases List.mem_cons.mp z with z | z
        · rw [z, sameH_at s15 a2 nmL] at nq; cases nq
        · exact (tlF.step s15).at z nq
      · rcases List.mem_cons.mp m with m | m
        · subst m; exact free_of ((s0x.trans s14).trans s15) nq
        · rcases List.mem_cons.mp m with m | m
          · subst m; exact free_of s0x np2
          · exact (hF b m).elim (nwA b) (free_of s0x)
end
end VL
namespace VL
open PySem L2
/-! ### all lists of a tree changed -/
structure SpH (S : List Addr) (H H' : Hp) : Prop where
  out : ∀ b, b ∉ S → H' b = H b
  inn : ∀ b ∈ S, ∃ o, H' b = some o
def spSp (T : Ct) (k : Nat) : Sp := fun vs H Q E => ∃ v d S, vs = [v] ∧ trB d = true ∧ tdep d ≤ k ∧ RRp T Z0 H S v (deepR d) ∧ S.Nodup ∧ ∀ H', SpH S H H' → Q .non H'
def tbSp (T : Ct) (E : XK) (k w : Nat) : TS := tDrop (tCallS (spSp T k) (fun _ => E) (tCons (tVar w) tNil))
section
variable {X : Cx} {T : Ct} {E EX : XK} {B : Hp × Hp} {K : PySem.W.Frag} {G H H' H1 : Hp} {Q : VK} {D : Ends} {σ : L2.St} {env : VEnv} {e : Expr} {pos px : Pos} {f : FE}
theorem sp_turns {k w : Nat} {p : Addr} {L : List Tri} (hw : w < σ.length) (hp : H p = some (.lst (L.map (·.1)))) (np : p ∉ Ad L) (tl : TL T H L) (nd : (Ad L).Nodup) (td : ∀ t ∈ L, tdep t.2.1 ≤ k)
    (fin : ∀ H' o, SpH (Ad L) H H' → (o = σ ∨ ∃ v, o = σ.set w (some v)) → D.nx o H') :
    ∃ W : Nat → Nat → L2.St → Hp → Prop, (∃ m, W 0 m σ H) ∧ ∀ i m σ H, W i m σ H →
      ((Itl K p).stop i H ∧ D.nx σ H) ∨ ((Itl K p).go i H ∧ ∃ N : L2.St → Hp → Prop, (∀ σ' H', N σ' H' → ∃ m', m' < m ∧ W (i + 1) m' σ' H') ∧ ∀ x H', (Itl K p).yld i H x H' → gName w x σ H' fun σ2 H2 =>
        tbSp T E k w { D with nx := N, ct := N, bk := D.nx } σ2 H2) := by
  refine for_list (K := K) (a := p) (xs := L.map (·.1)) (fun i o Hc => (o = σ ∨ ∃ v, o = σ.set w (some v)) ∧ SpH (Ad (L.take i)) H Hc) ⟨.inl rfl, ⟨fun _ _ => rfl, fun b m => by simp [Ad] at m⟩⟩ ?_ ?_ ?_
  · rintro i o Hc hi ⟨_, sp⟩
    refine .inl (.inl ((sp.out p fun z => np ?_).trans hp))
    obtain ⟨t, mt, ma⟩ := List.mem_flatMap.mp z
    exact List.mem_flatMap.mpr ⟨t, List.mem_of_mem_take mt, ma⟩
  · rintro i x o Hc hx ⟨ho, sp⟩
    have hi : i < L.length := by
      have := (List.getElem?_eq_some_iff.mp hx).1
      rwa [List.length_map] at this
    rw [List.getElem?_map, List.getElem?_eq_getElem hi] at hx
    have hx : L[i].1 = x := Option.some.inj hx
    subst hx
    have tk : L.take (i + 1) = L.take i ++ [L[i]] := by rw [List.take_succ, List.getElem?_eq_getElem hi]; rfl
    have spl : L = L.take i ++ (L[i] :: L.drop (i + 1)) := by rw [← List.drop_eq_getElem_cons hi, List.take_append_drop]
    have ndx : (Ad (L.take i) ++ (L[i].2.2 ++ Ad (L.drop (i + 1)))).Nodup := by
      have e : Ad L = Ad (L.take i) ++ (L[i].2.2 ++ Ad (L.drop (i + 1))) := by
        conv => lhs; rw [spl]
        rw [ad_app, ad_cons]
      rwa [← e]
    obtain ⟨tr, lo⟩ := tl _ (List.getElem_mem hi)
    have dis : ∀ b ∈ L[i].2.2, b ∉ Ad (L.take i) := fun b m z => (List.nodup_append.mp ndx).2.2 b z b (List.mem_append_left _ m) rfl
    have ow : w < o.length := by
      rcases ho with rfl | ⟨v, rfl⟩
      · exact hw
      · rw [List.length_set]; exact hw
    refine ⟨L[i].1, List.getElem?_set_self ow, L[i].1, L[i].2.1, L[i].2.2, rfl, tr, td _ (List.getElem_mem hi), RRp.mono (Same.refl _) rfl rfl _ _ _ lo fun b m => sp.out b (dis b m), ?_, fun H2 sp2 => ⟨?_, ?_⟩⟩
    · exact ((List.nodup_append.mp ndx).2.1).sublist (List.sublist_append_left _ _)
    · rcases ho with rfl | ⟨v, rfl⟩
      · exact .inr ⟨_, rfl⟩
      · exact .inr ⟨_, by rw [List.set_set]⟩
    · rw [tk, ad_app, ad_cons, ad_nil, List.append_nil]
      refine ⟨fun b nb => ?_, fun b m => ?_⟩
      · have n2 := fun z => nb (List.mem_append_right _ z)
        rw [sp2.out b n2]
        exact sp.out b fun z => nb (List.mem_append_left _ z)
      · by_cases m2 : b ∈ L[i].2.2
        · exact sp2.inn b m2
        · rw [sp2.out b m2]
          exact sp.inn b ((List.mem_append.mp m).resolve_right m2)
  · rintro o Hc ⟨ho, sp⟩
    rw [List.length_map, List.take_length] at sp
    exact fin Hc o sp ho
def tSp (T : Ct) (E : XK) (K : PySem.W.Frag) (k : Nat) : TS := tSeq (tFor (iList K (tOp (rIxT K) (tVar 0) (tC (.int 1)))) (gName 1) (tbSp T E k 1)) (tDrop (tBM K "list" rAppend (tOp (rIxT K) (tVar 0) (tC (.int 1))) (tCons (tC (.int 0)) tNil)))
theorem sp_core {k : Nat} {vs : List V} (h : spSp T (k + 1) vs H Q E) : ∃ x, vs = [x] ∧ tSp T E K k { nx := fun _ H' => Q .non H', rt := Q } [some x, none] H := by
  obtain ⟨v, d, S, rfl, tr, td, rp, nd, q⟩ := h
  refine ⟨v, rfl, ?_⟩
  obtain ⟨kk, ds, a, l, cs, Sc, rfl, tds, rfl, ha, hl, hcs, rfl⟩ := lo_tree rp tr
  have ln : ds.length ≤ 20000 := by
    rw [trB_tup] at tr
    simp only [Bool.and_eq_true, decide_eq_true_eq] at tr
    exact tr.1
  rw [tdep_tup] at td
  obtain ⟨L, f1, f2, f3, f4⟩ := tl_of hcs tds
  have n1 := List.nodup_cons.mp nd
  have n2 := List.nodup_cons.mp n1.2
  have nal : a ≠ l := fun z => n1.1 (by rw [z]; exact List.mem_cons_self)
  have naS : a ∉ Ad L := fun z => n1.1 (List.mem_cons_of_mem _ (by rw [← f3]; exact z))
  have nlS : l ∉ Ad L := fun z => n2.1 (by rw [← f3]; exact z)
  refine ⟨.ref a, rfl, a, _, 1, .ref l, rfl, rfl, .inl (.inl ha), atI_nat (j := 1) rfl, l, rfl, ⟨cs, .inl (.inl hl)⟩, ?_⟩
  refine sp_turns (T := T) (E := E) (k := k) (w := 1) (L := L) (σ := [some (.ref a), none]) (by simp) (by rw [f1]; exact hl) nlS f4 (by rw [f3]; exact n2.2) (fun t m => ?_) fun H2 o sp ho => ?_
  · have : t.2.1 ∈ ds := by rw [← f2]; exact List.mem_map.mpr ⟨t, m, rfl⟩
    have := tdeps_mem this
    omega
  have ha2 : H2 a = some (.tup [.int kk, .ref l]) := (sp.out a naS).trans ha
  have hl2 : H2 l = some (.lst cs) := (sp.out l nlS).trans hl
  have h0 : o[0]? = some (some (.ref a)) := by
    rcases ho with rfl | ⟨v, rfl⟩ <;> rfl
  have lc : cs.length = ds.length := by rw [← f1, ← f2, List.length_map, List.length_map]
  refine ⟨.ref a, h0, a, _, 1, .ref l, rfl, rfl, .inl (.inl ha2), atI_nat (j := 1) rfl, .inl ⟨rfl, cs, .inl (.inl hl2)⟩, l, cs, .int 0, rfl, rfl, hl2, gl_line (by omega), q _ ⟨fun b nb => ?_, fun b m => ?_⟩⟩
  · rw [upd_ne (fun z => nb (by rw [z]; exact List.mem_cons_of_mem _ List.mem_cons_self))]
    exact sp.out b fun z => nb (List.mem_cons_of_mem _ (List.mem_cons_of_mem _ (by rw [← f3]; exact z)))
  · by_cases z : b = l
    · subst z; exact ⟨_, upd_same⟩
    · rw [upd_ne z]
      rcases List.mem_cons.mp m with m | m
      · subst m; exact ⟨_, ha2⟩
      · rcases List.mem_cons.mp m with m | m
        · exact absurd m z
        · exact sp.inn b (by rw [f3]; exact m)
/-! ### for x in y[j]: spoil(x) -/
mutual
theorem rrp_Z0 : ∀ (d : VL.D) (S : List Addr) (v : V), RRp T G H S v (deepR d) → RRp T Z0 H S v (deepR d)
  | .list ds, _, _, h => by
    simp only [deepR] at h ⊢
    cases h with
    | lst h1 q => exact .lst h1 (rrps_Z0 ds _ _ q)
  | .tuple ds, _, _, h => by
    simp only [deepR] at h ⊢
    cases h with
    | tup h1 q => exact .tup h1 (rrps_Z0 ds _ _ q)
  | .none, _, _, h => by
    simp only [deepR] at h ⊢
    cases h with
    | dat z => exact .dat ⟨by have := z.dp; cases this; exact .non, z.ok⟩
  | .bool b, _, _, h => by
    simp only [deepR] at h ⊢
    cases h with
    | dat z => exact .dat ⟨by have := z.dp; cases this; exact .bl _, z.ok⟩
  | .int i, _, _, h => by
    simp only [deepR] at h ⊢
    cases h with
    | dat z => exact .dat ⟨by have := z.dp; cases this; exact .int _, z.ok⟩
  | .str x, _, _, h => by
    simp only [deepR] at h ⊢
    cases h with
    | dat z => exact .dat ⟨by have := z.dp; cases this; exact .str _, z.ok⟩
  | .dict x, _, _, h => by
    simp only [deepR] at h ⊢
    cases h with
    | dat z => have := z.dp; cases this
theorem rrps_Z0 : ∀ (ds : List VL.D) (S : List Addr) (vs : List V), RRpAll T G H S vs (deepRs ds) → RRpAll T Z0 H S vs (deepRs ds)
  | [], _, _, h => by simp only [deepRs] at h ⊢; cases h; exact .nil
  | d :: ds, _, _, h => by
    simp only [deepRs] at h ⊢
    cases h with
    | cons h1 h2 => exact .cons (rrp_Z0 d _ _ h1) (rrps_Z0 ds _ _ h2)
end
open Classical in
/-- for w in x[j]: spoil(w), x a thing of one's own -/
noncomputable def sSpT (k i j w : Nat) : FS := fun env => match env[i]? with
  | some (some (.rg (.tup rs))) => if ∃ ds, rs[j]? = some (.lst (deepRs ds)) ∧ trsB ds = true ∧ tdeps ds ≤ k ∧ i ≠ w ∧ w < env.length then
      (match rs[j]? with
        | some (.lst qs) => .nx ((env.set i (some (.rg (.tup (rs.set j (.lst (qs.map fun _ => .jk))))))).set w none)
        | _ => .stuck) else .stuck
  | _ => .stuck
theorem sSpT_ok {k i j w : Nat} {rs : List RD} {ds : List VL.D} (e : env[i]? = some (some (.rg (.tup rs)))) (er : rs[j]? = some (.lst (deepRs ds))) (t : trsB ds = true) (td : tdeps ds ≤ k) (iw : i ≠ w) (hw : w < env.length) :
    sSpT k i j w env = .nx ((env.set i (some (.rg (.tup (rs.set j (.lst ((deepRs ds).map fun _ => .jk))))))).set w none) := by
  unfold sSpT
  rw [e]
  dsimp only
  rw [if_pos ⟨ds, er, t, td, iw, hw⟩, er]
theorem rgT_open (S : Sim T B G env σ H) {i j : Nat} {rs qs : List RD} (ei : env[i]? = some (some (.rg (.tup rs)))) (er : rs[j]? = some (.lst qs)) :
    ∃ a vs p xs Sq, σ[i]? = some (some (.ref a)) ∧ H a = some (.tup vs) ∧ vs[j]? = some (.ref p) ∧ H p = some (.lst xs) ∧ RRpAll T G H Sq xs qs ∧ p ∉ Sq ∧ Sq.Nodup ∧
      ∀ H' xs' qs' Sq', (∀ b, b ≠ p → b ∉ Sq → H' b = H b) → (∀ b ∈ Sq, ∃ o, H' b = some o) → H' p = some (.lst xs') → RRpAll T G H' Sq' xs' qs' → Sq'.Sublist Sq → Sim T B G (env.set i (some (.rg (.tup (rs.set j (.lst qs')))))) σ H' := by
  obtain ⟨u, v, F, hv, ra, ap⟩ := S.rg i _ ei
  have rp := ra.rp
  cases rp with
  | tup h q =>
    rename_i a vs Sa
    have n1 := List.nodup_cons.mp ra.nd
    obtain ⟨p, xs, Sq, g1, g2, g3, g4, g5, g6, g7⟩ := RRpAll.sub j q er n1.2
    have nap : a ≠ p := fun z => n1.1 (by rw [z]; exact g4)
    have naS : a ∉ Sq := fun z => n1.1 (g6.subset z)
    refine ⟨a, vs, p, xs, Sq, hv, h, g1, g2, g3, g5, n1.2.sublist g6, fun H' xs' qs' Sq' k k2 hp r sb => ?_⟩
    obtain ⟨S', s1, r1⟩ := g7 H' xs' qs' Sq' (fun b m z1 z2 => k b z1 z2) hp r sb
    refine S.wrR (F' := a :: S') ei hv ra ap (fun b nb => ?_) (fun b m => ?_) (.tup ((k a nap naS).trans h) r1) (s1.cons_cons a)
    · exact k b (fun z => nb (by rw [z]; exact List.mem_cons_of_mem _ g4)) fun z => nb (List.mem_cons_of_mem _ (g6.subset z))
    · by_cases z1 : b = p
      · subst z1; exact ⟨_, hp⟩
      · by_cases z2 : b ∈ Sq
        · exact k2 b z2
        · rw [k b z1 z2]
          obtain ⟨o, e, _⟩ := RRp.at _ _ _ ra.rp b m
          exact ⟨o, e⟩
/-- the def that spoils a tree -/
def FnSp (P : Program) (w : World) (K : PySem.W.Frag) (mg : Str → Option Value) (base : Heap) (T : Ct) (k : Nat) (x : Str) : Prop :=
  ∃ f fd ps, FnGd P w K mg base (L2.CX P w) k f fd ps (spSp T k) ∧ mg x = some (.ref f) ∧ PySem.W.keepIn K (.ref f) = true ∧ Binds K fd ps []
theorem vs_spT (i j w : Nat) {k jj : Nat} {x y g : Str} {py pw p1 pi pg pc : Pos} {spos : Pos} (C : Cv X T EX B) (po : PassesOwn (model X.prog X.w) X.A X.env X.xe) (F : FnSp X.prog X.w X.K X.mg X.base T k g) (hr : Room k X.A) (hg : Gl X g) (hi : X.N[i]? = some x := by rfl) (hw : X.N[w]? = some y := by rfl)
    (vi : Vis X.env.scope x := by first | exact Or.inl rfl | exact Or.inr (Or.inl rfl) | exact Or.inr (Or.inr rfl)) (vw : Vis X.env.scope y := by first | exact Or.inl rfl | exact Or.inr (Or.inl rfl) | exact Or.inr (Or.inr rfl)) (lw : Loc X.env.scope y := by first | exact .inl rfl | exact .inr rfl) (fw : X.fn y = true ∨ X.env.scope.names.lookup y = some .local := by first | exact .inl rfl | exact .inr rfl)
    (di : (x == ("__debug__" : Str)) = false := by decide) (ci : (x == ("__classdict__" : Str)) = false := by decide) (dw : (y == ("__debug__" : Str)) = false := by decide) (cw : (y == ("__classdict__" : Str)) = false := by decide) (dg : (g == ("__debug__" : Str)) = false := by decide)
    (pli : PlainIx (.Constant (.int (j : Nat)) jj p1) := by intro _ _; rfl) (hs : starEach [.Name y pw] X.env = (false, eval (.Name y pw) X.env) :: starEach [] X.env := by rfl) (hpl : ((backTo pc (starEach [] X.env)).any fun z => z.1) = false := by rfl) (hsw : swapsWith (.Call (.Name g pg) [.Name y pw] [] pc) none spos.line X.env = pure false := by rfl)
    (hfs : ∀ z, foldedSetIterable (.Subscript (.Name x px) (.Constant (.int (j : Nat)) jj p1) pi) X.env z = pure z := by intro _; rfl) :
    VS X T EX B (.For (.Name y py) (.Subscript (.Name x px) (.Constant (.int (j : Nat)) jj p1) pi) [.Expr (.Call (.Name g pg) [.Name y pw] [] pc) spos] [] pos) (sSpT k i j w) := by
  obtain ⟨f, fd, ps, F, hm, hk, hb⟩ := F
  refine ps_weak (ps_for (tb := tbSp T EX k w) po C.calm (pi_list (pe_ix ix_tup (pe_var hi vi di ci) pe_int pli)) (pg_name (i := w) C.nd hw lw fw)
    (pss_one (ps_expr (pe_callG (E := fun _ => EX) F C.gd hr hg hm hk hb (fun σ pn H s e s' => C.pass pn σ H s e s') (pa_cons (pe_var hw vw dw cw) pa_nil hs) dg hs hpl) hsw)) hfs) fun D σ H q => ?_
  obtain ⟨G, env, S, o⟩ := q
  unfold sSpT at o
  split at o
  rotate_left
  · exact o.elim
  rename_i rs ei
  split at o
  rotate_left
  · exact o.elim
  rename_i cd
  obtain ⟨ds, er, tr, td, iw, hwl⟩ := cd
  rw [er] at o
  dsimp only at o
  obtain ⟨a, vs, p, xs, Sq, h1, h2, h3, h4, h5, h6, h7, fin⟩ := rgT_open S ei er
  obtain ⟨L, f1, f2, f3, f4⟩ := tl_of (rrps_Z0 ds _ _ h5) tr
  refine ⟨.ref a, h1, a, vs, (j : Nat), .ref p, rfl, rfl, .inl (.inl h2), atI_nat h3, p, rfl, ⟨xs, .inl (.inl h4)⟩, ?_⟩
  refine sp_turns (T := T) (E := EX) (k := k) (w := w) (L := L) (S.len ▸ hwl) (by rw [f1]; exact h4) (by rw [f3]; exact h6) f4 (by rw [f3]; exact h7) (fun t m => ?_) fun H2 o' sp ho => ?_
  · have : t.2.1 ∈ ds := by rw [← f2]; exact List.mem_map.mpr ⟨t, m, rfl⟩
    exact Nat.le_trans (tdeps_mem this) td
  rw [f3] at sp
  have lx : xs.length = (deepRs ds).length := h5.len
  have S2 := fin H2 xs ((deepRs ds).map fun _ => .jk) [] (fun b _ nb => sp.out b nb) sp.inn ((sp.out p h6).trans h4) (jks_rrp lx) (List.nil_sublist _)
  rcases ho with rfl | ⟨v2, rfl⟩
  · exact o G _ H2 (Same.refl _) (S2.forget w)
  · exact o G _ H2 (Same.refl _) (S2.setNone (i := w))
/-! ### x[j].append(n), x a thing of one's own -/
def sAppT (i j : Nat) (n : Int) : FS := fun env => match env[i]? with
  | some (some (.rg (.tup rs))) => (match rs[j]? with
    | some (.lst qs) => if qs.length ≤ 100000 then .nx (env.set i (some (.rg (.tup (rs.set j (.lst (qs ++ [.dat (.int n)]))))))) else .stuck
    | _ => .stuck)
  | _ => .stuck
theorem rrpAll_snoc {v : V} {d : VL.D} (hd : Dq G v d) : ∀ {rs : List RD} {S : List Addr} {vs : List V}, RRpAll T G H S vs rs → RRpAll T G H S (vs ++ [v]) (rs ++ [.dat d])
  | [], _, _, .nil => by
    have := RRpAll.cons (T := T) (H := H) (.dat hd) .nil
    simpa using this
  | r :: rs, _, _, .cons h a => .cons h (rrpAll_snoc hd a)
theorem vs_appT (i j : Nat) {n : Int} {jj jn : Nat} {x : Str} {p1 p2 pi apos cpos : Pos} (hN : X.N[i]? = some x := by rfl) (hv : Vis X.env.scope x := by first | exact Or.inl rfl | exact Or.inr (Or.inl rfl) | exact Or.inr (Or.inr rfl)) (hd : (x == ("__debug__" : Str)) = false := by decide) (hcd : (x == ("__classdict__" : Str)) = false := by decide)
    (pli : PlainIx (.Constant (.int (j : Nat)) jj p1) := by intro _ _; rfl) (hline : (apos.endLine == cpos.line) = true := by rfl) :
    VS X T EX B (.Expr (.Call (.Attribute (.Subscript (.Name x px) (.Constant (.int (j : Nat)) jj p1) pi) "append" apos) [.Constant (.int n) jn p2] [] cpos) pos) (sAppT i j n) := by
  refine ps_weak (ps_expr (pe_bm PySem.F.plainAttrs_list PySem.F.slot_list_append PySem.F.type_list_append mt_append (pe_ix ix_tup (pe_var hN hv hd hcd) pe_int pli) (pa_cons pe_int pa_nil rfl) rfl rfl hline rfl rfl) rfl) fun D σ H q => ?_
  obtain ⟨G, env, S, o⟩ := q
  unfold sAppT at o
  split at o
  rotate_left
  · exact o.elim
  rename_i rs ei
  split at o
  rotate_left
  · exact o.elim
  rename_i qs er
  split at o
  rotate_left
  · exact o.elim
  rename_i hl
  obtain ⟨a, vs, p, xs, Sq, h1, h2, h3, h4, h5, h6, h7, fin⟩ := rgT_open S ei er
  have lx : xs.length = qs.length := h5.len
  refine ⟨.ref a, h1, a, vs, (j : Nat), .ref p, rfl, rfl, .inl (.inl h2), atI_nat h3, .inl ⟨rfl, xs, .inl (.inl h4)⟩, p, xs, .int n, rfl, rfl, h4, gl_line (by omega), ?_⟩
  refine o G σ _ (Same.refl _) (fin _ (xs ++ [.int n]) (qs ++ [.dat (.int n)]) Sq (fun b nb _ => upd_ne nb) (fun b m => ?_) upd_same (rrpAll_snoc Dq.int (RRpAll.mono (Same.refl _) rfl rfl _ _ _ h5 fun b m => upd_ne fun z => h6 (by rw [← z]; exact m))) (List.Sublist.refl _))
  rw [upd_ne fun z => h6 (by rw [← z]; exact m)]
  obtain ⟨o, e, _⟩ := RRpAll.at _ _ _ h5 b m
  exact ⟨o, e⟩
end
end VL
namespace VL
open PySem L2
/-! ### promises by places, of a def of the text -/
def FnX (P : Program) (w : World) (K : PySem.W.Frag) (mg : Str → Option Value) (base : Heap) (k : Nat) (x : Str) (sp : Sp) : Prop :=
  ∃ f fd ps, FnGd P w K mg base (L2.CX P w) k f fd ps sp ∧ mg x = some (.ref f) ∧ PySem.W.keepIn K (.ref f) = true ∧ Binds K fd ps []
section
variable {P : Program} {w : World} {K : PySem.W.Frag} {mg : Str → Option Value} {base : Heap} {T : Ct}
theorem gx_mk {x q : Str} {st : Stmt} {f : Addr} {fd : FuncData} {N ps : List Str} {k : Nat} {sp : Sp} (F : Fun K x q st f fd) (S : FnScope N ps (defScope st)) (ln : ∀ xs H Q E, sp xs H Q E → xs.length = ps.length)
    (hb : ∀ (cdv : Value) (A : Around) (outer : List Env) (s0 : Shared) (H : Hp) (E : XK) (vs : List V) (Q : VK), Room k (A.deeper (PyProof.Rows.envOfC q (defScope st) s0.heap.objs.size f cdv)) →
      Cv (cxOf (L2.CX P w) P w K mg base N q (defScope st) f cdv A outer s0 H E) T E B0 →
      PassesOwn (model P w) (A.deeper (PyProof.Rows.envOfC q (defScope st) s0.heap.objs.size f cdv)) (PyProof.Rows.envOfC q (defScope st) s0.heap.objs.size f cdv) (cxOf (L2.CX P w) P w K mg base N q (defScope st) f cdv A outer s0 H E).xe →
      Takes (cxOf (L2.CX P w) P w K mg base N q (defScope st) f cdv A outer s0 H E) (fun cls d _ H => E cls d H) → sp vs H Q E →
      ∃ t, PSs (cxOf (L2.CX P w) P w K mg base N q (defScope st) f cdv A outer s0 H E) (defBody st) t ∧ t { nx := fun _ H' => Q .non H', rt := Q } (start N vs) H) :
    FnGd P w K mg base (L2.CX P w) (k + 1) f fd ps sp := by
  refine gd_mk F S ln (fun cdv A outer s0 H vs Q E hq hr h => ?_)
  have tk : Takes (cxOf (L2.CX P w) P w K mg base N q (defScope st) f cdv A outer s0 H E) (fun cls d _ H => E cls d H) := takes_of rfl rfl rfl rfl
  refine hb cdv A outer s0 H E vs Q hr ⟨rfl, S.nd, passes_call tk fun _ _ _ _ z => z, ?_, hq⟩ (passes_of rfl) tk h
  have := hr.un
  show (A.deeper (PyProof.Rows.envOfC q (defScope st) s0.heap.objs.size f cdv)).units + 150 < cLine
  omega
theorem fx_zero {x q : Str} {st : Stmt} {ps : List Str} {sp : Sp} (d : Df K mg x q st ps) (no : ∀ vs H Q E, ¬ sp vs H Q E) : FnX P w K mg base 0 x sp := by
  obtain ⟨f, fd, F, hm, hbi⟩ := d
  exact ⟨f, fd, ps, ⟨fun vs H Q E h => absurd h (no vs H Q E), fun A outer s H args us vs Q E _ _ _ _ _ h => absurd h (no vs H Q E)⟩, hm, F.kp, hbi⟩
theorem pe_callX {X : Cx} {EX : XK} {B : Hp × Hp} {x : Str} {k : Nat} {sp : Sp} {e : Expr} {es : List Expr} {t : TA} {p pos : Pos} (F : FnX X.prog X.w X.K X.mg X.base k x sp) (hr : Room k X.A) (hg : Gl X x) (C : Cv X T EX B) (ha : PA X (e :: es) t)
    (hd : (x == ("__debug__" : Str)) = false := by decide) (hs : starEach (e :: es) X.env = (false, eval e X.env) :: starEach es X.env := by rfl) (hpl : ((backTo pos (starEach es X.env)).any fun z => z.1) = false := by rfl) :
    PE X (.Call (.Name x p) (e :: es) [] pos) (tCallS sp (fun _ => EX) t) := by
  obtain ⟨f, fd, ps, F, hm, hk, hb⟩ := F
  exact pe_callG (E := fun _ => EX) F C.gd hr hg hm hk hb (fun σ pn H s e s' => C.pass pn σ H s e s') ha hd hs hpl
theorem spCp0 {vs : List V} {H : Hp} {Q : VK} {E : XK} : ¬ spCp T 0 vs H Q E := by
  rintro ⟨v, d, rfl, tr, td, _⟩
  obtain ⟨k, ds, rfl, _, _⟩ := tr_inv tr
  rw [tdep_tup] at td
  omega
theorem spSp0 {vs : List V} {H : Hp} {Q : VK} {E : XK} : ¬ spSp T 0 vs H Q E := by
  rintro ⟨v, d, S, rfl, tr, td, _⟩
  obtain ⟨k, ds, rfl, _, _⟩ := tr_inv tr
  rw [tdep_tup] at td
  omega
theorem lnLk {vs : List V} {H : Hp} {Q : VK} {E : XK} (h : spLk T vs H Q E) : vs.length = 2 := by obtain ⟨_, _, rfl, _⟩ := h; rfl
theorem lnJ {vs : List V} {H : Hp} {Q : VK} {E : XK} (h : spJ T vs H Q E) : vs.length = 2 := by obtain ⟨_, _, _, _, rfl, _⟩ := h; rfl
theorem lnCp {k : Nat} {vs : List V} {H : Hp} {Q : VK} {E : XK} (h : spCp T k vs H Q E) : vs.length = 1 := by obtain ⟨_, _, rfl, _⟩ := h; rfl
theorem lnSp {k : Nat} {vs : List V} {H : Hp} {Q : VK} {E : XK} (h : spSp T k vs H Q E) : vs.length = 1 := by obtain ⟨_, _, _, rfl, _⟩ := h; rfl
theorem lnLo {c : List SV → Prop} {n : Nat} {vs : List V} {H : Hp} {Q : VK} {E : XK} (hn : ∀ as, c as → as.length = n) (h : spLo T c vs H Q E) : vs.length = n := by
  obtain ⟨G, as, _, _, r, c, _⟩ := h
  rw [vrp_len r, hn as c]
/-! a list of trees anew -/
def cdS (k : Nat) (as : List SV) : Prop := ∃ ds, as = [.sh (.list ds)] ∧ trsB ds = true ∧ ds.length ≤ 20000 ∧ tdeps ds ≤ k
def tSm (T : Ct) (K : PySem.W.Frag) (k : Nat) : TS := tRet (tCpLc T k (iList K (tVar 0)) 1)
theorem sm_core {k : Nat} {H : Hp} {Q : VK} {E : XK} (hT : T.me = none) {vs : List V} (h : spLo T (cdS k) vs H Q E) : ∃ x, vs = [x] ∧ tSm T K k { nx := fun _ H' => Q .non H', rt := Q } [some x, none] H := by
  obtain ⟨G, as, gh, nm, rp, ⟨ds, rfl, tr, ln, td⟩, q⟩ := h
  cases rp with
  | cons r1 rp =>
    cases rp
    rename_i x
    have r1 : Dq G x (.list ds) := r1
    refine ⟨x, rfl, ?_⟩
    obtain ⟨l, cs, rfl, q1, z1⟩ := (r1.mono (nM_of gh nm)).lstInv
    unfold tSm
    dsimp only [tRet]
    refine cp_lcT (k := k) (j := 1) (σ := [some (.ref l), none]) (K := K) hT (ti_var (i := 0) rfl q1) (by simp) q1 z1 tr td ln fun D L H1 s1 nD hD hm tl nd nw => ?_
    refine q (.ref D) (D :: Ad L) (.list ds) H1 s1 nd (fun a m => ?_) ?_
    · rcases List.mem_cons.mp m with m | m
      · subst m; exact nD
      · exact nw a m
    · rw [deepR]
      have := tl_all tl
      rw [hm] at this
      exact .lst hD this
/-! ### a def whose first list is its own -/
def spO (T : Ct) (n : Nat) (m : List SV → R) : Sp := fun vs H Q E => ∃ G as ds p xs vs', vs = .ref p :: vs' ∧ H p = some (.lst xs) ∧ G p = none ∧ Same G H ∧ NoMem G ∧ (∀ a, T.me = some a → ∃ o, H a = some o ∧ Mem o) ∧ DqAll G xs ds ∧ VRpAll T G vs' as ∧ as.length + 1 = n ∧ Out T E (m (.ow ds :: as)) G (hid H p) Q
def FnO (P : Program) (w : World) (K : PySem.W.Frag) (mg : Str → Option Value) (base : Heap) (T : Ct) (k : Nat) (x : Str) (n : Nat) (m : List SV → R) : Prop := FnX P w K mg base k x (spO T n m)
theorem hid_at {H : Hp} {p b : Addr} (h : b ≠ p) : hid H p b = H b := if_neg h
theorem hid_p {H : Hp} {p : Addr} : hid H p p = none := if_pos rfl
theorem fnO_mk {x q : Str} {st : Stmt} {N ps : List Str} {k : Nat} {s : FS} (d : Df K mg x q st ps) (S : FnScope N ps (defScope st)) (hb : Bd P w K mg base T k N q st s) (hn : 0 < N.length := by decide) : FnO P w K mg base T (k + 1) x ps.length (runB N.length s) := by
  obtain ⟨f, fd, F, hm, hbi⟩ := d
  refine ⟨f, fd, ps, gd_mk F S (fun vs H Q E h => ?_) (fun cdv A outer s0 H vs Q E hq hr h => ?_), hm, F.kp, hbi⟩
  · obtain ⟨G, as, ds, p, xs, vs', rfl, _, _, _, _, _, _, r, hl, _⟩ := h
    rw [List.length_cons, vrp_len r, hl]
  obtain ⟨G, as, ds, p, xs, vs', rfl, hp, gp, gh, nb, mo, dq, r, hl, o⟩ := h
  have tk : Takes (cxOf (L2.CX P w) P w K mg base N q (defScope st) f cdv A outer s0 H E) (fun cls d _ H => E cls d H) := takes_of rfl rfl rfl rfl
  have gh0 : Same G (hid H p) := fun b u e => by
    rw [hid_at (fun z => by rw [z, gp] at e; cases e)]; exact gh b u e
  have S0 := sim_start (T := T) (G := G) (H := hid H p) (vs := .non :: vs') (as := .sh .none :: as) N.length gh0 nb (fun a z => by
    obtain ⟨u, e, mu⟩ := mo a z
    refine ⟨u, ?_, mu⟩
    rw [hid_at]; exact e
    rintro rfl
    rw [hp] at e; cases e; exact mu) (.cons Dq.non r) N rfl
  have st : Step G (hid H p) G H := ⟨fun b u e => by
    by_cases z : b = p
    · subst z; rw [hid_p] at e; cases e
    · rw [hid_at z] at e; exact ⟨u, e, .inl rfl⟩, Same.refl _, gh, fun _ a b => absurd a b, fun n => n⟩
  have S1 := (S0.step st).setO (i := 0) (v := .ref p) (w := .ow ds) (H0 := hid H p) ⟨p, xs, rfl, hid_p, gp, hp, dq⟩ (SameH.refl _) (fun j es p' e1 e2 => by
    obtain ⟨p2, ys, h1, h2, _⟩ := S0.ow j es e1
    rw [e2] at h1; cases h1
    rw [h2]; exact fun z => nomatch z) (fun j r' v F' e1 e2 e3 a ma => by
    obtain ⟨_, v2, S2, h1, ra, _⟩ := S0.rg j r' e1
    rw [e2] at h1; cases h1
    have e := RRp.det r' S2 F' v ra.rp e3 fun b mb => by
      have this : hid H p b = none := (ra.nw b mb).2
      obtain ⟨u, z, _⟩ := RRp.at _ _ _ ra.rp b mb
      rw [z] at this; cases this
    rw [e] at ma
    obtain ⟨u, z, _⟩ := RRp.at _ _ _ ra.rp a ma
    rw [z]; exact fun y => nomatch y)
  have e1 : ((List.map some (SV.sh PyData.none :: as) ++ List.replicate (N.length - (SV.sh PyData.none :: as).length) none).set 0 (some (SV.ow ds))) = List.map some (SV.ow ds :: as) ++ List.replicate (N.length - (SV.ow ds :: as).length) none := by simp
  have e2 : (L2.start N (V.non :: vs')).set 0 (some (V.ref p)) = L2.start N (V.ref p :: vs') := by simp [L2.start]
  rw [e1, e2] at S1
  refine ⟨_, hb f cdv A outer s0 H E (G, hid H p) hr ⟨rfl, S.nd, passes_call tk fun _ _ _ _ z => z, ?_, hq⟩ (passes_of rfl) tk, G, _, S1, ?_⟩
  · have := hr.un
    show (A.deeper (PyProof.Rows.envOfC q (defScope _) s0.heap.objs.size f cdv)).units + 150 < cLine
    omega
  · unfold runB at o
    revert o
    cases s (List.map some (SV.ow ds :: as) ++ List.replicate (N.length - (SV.ow ds :: as).length) none) with
    | nx e => exact fun o G' σ' H' sg S' => o .non G' H' S'.st .non
    | rt v => exact fun o => o
    | err c => exact fun o => o
    | stuck => exact fun o => o
theorem fnO_zero {x q : Str} {st : Stmt} {ps : List Str} {n : Nat} {m : List SV → R} (d : Df K mg x q st ps) (h : m = fun _ => .stuck) : FnO P w K mg base T 0 x n m := by
  subst h
  exact fx_zero d fun vs H Q E ⟨_, _, _, _, _, _, _, _, _, _, _, _, _, _, _, o⟩ => o
end
section
variable {X : Cx} {T : Ct} {EX : XK} {B : Hp × Hp} {e : Expr} {es : List Expr} {pos p : Pos} {f : FE} {fs : List FE}
@[simp] def calO (n : Nat) (m : List SV → R) (f : FE) (fs : List FE) : FE := fun env => match f env with
  | .val (.ow ds) => (evA fs env).b fun as => if as.length + 1 = n then m (.ow ds :: as) else .stuck
  | .err c => .err c
  | _ => .stuck
theorem ve_callO {x : Str} {n k : Nat} {m : List SV → R} (F : FnO X.prog X.w X.K X.mg X.base T k x n m) (hr : Room k X.A) (hg : Gl X x) (C : Cv X T EX B) (he : VE X T EX B e f) (ha : VA X T EX B es fs) (hd : (x == ("__debug__" : Str)) = false := by decide)
    (hs : starEach (e :: es) X.env = (false, eval e X.env) :: starEach es X.env := by rfl) (hpl : ((backTo pos (starEach es X.env)).any fun z => z.1) = false := by rfl) :
    VE X T EX B (.Call (.Name x p) (e :: es) [] pos) (calO n m f fs) := by
  refine pe_weak (pe_callX F hr hg C (pa_cons he ha hs) hd hs hpl) fun σ H Q q => ?_
  obtain ⟨G, env, S, o⟩ := q
  refine ⟨G, env, S, ?_⟩
  unfold calO at o
  revert o
  cases f env with
  | err c => exact fun o => o
  | stuck => exact fun o => o.elim
  | val w =>
    cases w with
    | sh _ => exact fun o => o.elim
    | ob _ _ => exact fun o => o.elim
    | rg _ => exact fun o => o.elim
    | ow ds =>
      intro o p xs G1 H1 s1 n1 n2 e1 dq
      dsimp only at o
      refine ⟨G1, env, S.step s1, ?_⟩
      revert o
      cases evA fs env with
      | err c => exact fun o H' z => o H' (s1.hh.trans z)
      | stuck => exact fun o => o.elim
      | val as =>
        intro o vs G2 H2 s2 rp
        have o : Out T EX (if as.length + 1 = n then m (.ow ds :: as) else .stuck) G H Q := o
        split at o
        rotate_left
        · exact o.elim
        rename_i hl
        obtain ⟨n2', e1'⟩ := s2.own n2 e1 (fun z => z)
        have s12 := s1.trans s2
        have S2 := S.step s12
        have st : Step G H G2 (hid H2 p) := ⟨fun b u z => by rw [hid_at (ne_of_none z n1)]; exact s12.hh b u z, s12.gg, fun b u z => by rw [hid_at (ne_of_none z n2')]; exact s12.gh b u z, s12.nw, s12.nm⟩
        exact ⟨G2, as, ds, p, xs, vs, rfl, e1', n2', S2.gh, S2.st.nm S2.nb, S2.me, dq.mono s2.gg, rp, hl, Out.step o st⟩
end
end VL
namespace VL
open PySem L2
section
variable {P : Program} {w : World} {K : PySem.W.Frag} {mg : Str → Option Value} {base : Heap} {T : Ct}
theorem fn_no {x q : Str} {st : Stmt} {ps : List Str} {n k : Nat} {m : List SV → R} (d : Df K mg x q st ps) (h : m = fun _ => .stuck) : Fn P w K mg base T k x n m := by
  obtain ⟨f, fd, F, hm, hbi⟩ := d
  subst h
  have no : ∀ vs H Q E, ¬ spV T n (fun _ => .stuck) vs H Q E := fun vs H Q E ⟨_, _, _, _, _, _, _, o⟩ => o
  exact ⟨f, fd, ps, ⟨fun vs H Q E h => absurd h (no vs H Q E), fun A outer s H args us vs Q E _ _ _ _ _ h => absurd h (no vs H Q E)⟩, hm, F.kp, hbi⟩
theorem fnR_mk {x q : Str} {st : Stmt} {N ps : List Str} {k : Nat} {s : FS} {cond : List SV → Prop} (d : Df K mg x q st ps) (S : FnScope N ps (defScope st)) (hb : Bd P w K mg base T k N q st s)
    (g : ∀ f fd, Fun K q q st f fd → FnGd P w K mg base (L2.CX P w) (k + 1) f fd ps (spLo T cond)) : Fn P w K mg base T (k + 1) x ps.length (mRg cond (runB N.length s)) := by
  obtain ⟨f, fd, F, hm, hbi⟩ := d
  exact ⟨f, fd, ps, gd_and (fn_ok F S fun cdv A outer s0 H E B hr C po tk => hb f cdv A outer s0 H E B hr C po tk) (g f fd F), hm, F.kp, hbi⟩
end
end VL
namespace VL
open PySem L2
mutual
/-- nothing but flat data within -/
def RD.fl : RD → Bool
  | .dat d => flatD d
  | .lst rs => RD.fls rs
  | .tup rs => RD.fls rs
  | .ins _ _ => false
  | .jk => true
  | .dic _ => false
def RD.fls : List RD → Bool
  | [] => true
  | r :: rs => RD.fl r && RD.fls rs
end
mutual
theorem RRp.flat {T : Ct} {G G2 H : Hp} : ∀ (r : RD) (S : List Addr) (v : V), RRp T G H S v r → r.fl = true → RRp T G2 H S v r
  | .dat d, _, _, .dat h, n => .dat ⟨flat_dp d _ (by simpa [RD.fl] using n) h.dp, h.ok⟩
  | .jk, _, _, .jk, _ => .jk
  | .lst rs, _, _, .lst h a, n => .lst h (RRpAll.flat rs _ _ a (by simpa [RD.fl] using n))
  | .tup rs, _, _, .tup h a, n => .tup h (RRpAll.flat rs _ _ a (by simpa [RD.fl] using n))
  | .ins c rs, _, _, _, n => by simp [RD.fl] at n
  | .dic _, _, _, _, n => by simp [RD.fl] at n
theorem RRpAll.flat {T : Ct} {G G2 H : Hp} : ∀ (rs : List RD) (S : List Addr) (vs : List V), RRpAll T G H S vs rs → RD.fls rs = true → RRpAll T G2 H S vs rs
  | [], _, _, .nil, _ => .nil
  | r :: rs, _, _, .cons h a, n => by
    simp only [RD.fls, Bool.and_eq_true] at n
    exact .cons (RRp.flat r _ _ h n.1) (RRpAll.flat rs _ _ a n.2)
end
section
variable {X : Cx} {T : Ct} {EX : XK} {B : Hp × Hp} {e a b c o tg : Expr} {es : List Expr} {pos p p2 px : Pos} {f g h : FE} {fs : List FE} {G H G1 H1 : Hp} {Q : VK} {st : Stmt} {sts : List Stmt} {s t : FS} {D : Ends} {σ : L2.St} {env : VEnv}
/-- a thing of one's own is looked at while another is made -/
def vBorR (i : Nat) (f : FE) : FE := fun env => match env[i]? with
  | some (some (.rg r)) => (match r.fzv with
    | some w => (match f (env.set i (some w)) with
      | .val (.rg q) => if q.fl = true then .val (.rg q) else .stuck
      | .err c => .err c
      | _ => .stuck)
    | none => .stuck)
  | _ => .stuck
theorem ve_borR (i : Nat) (h : VE X T EX B e f) : VE X T EX B e (vBorR i f) := pe_weak h fun σ H Q q => by
  obtain ⟨G, env, S, o⟩ := q
  unfold vBorR at o
  split at o
  rotate_left
  · exact o.elim
  rename_i r ei
  split at o
  rotate_left
  · exact o.elim
  rename_i w ew
  obtain ⟨u, F, e1, e2, S'⟩ := S.frzR ei ew
  have k := RRp.at r F u e2.rp
  refine ⟨_, _, S', ?_⟩
  revert o
  cases f (env.set i (some w)) with
  | err c => exact fun o => o
  | stuck => exact fun o => o
  | val w =>
    cases w with
    | ob _ _ => exact fun o => o.elim
    | sh d => exact fun o => o.elim
    | ow es => exact fun o => o.elim
    | rg q =>
      intro o v F2 G' H' s' nd nw dq
      dsimp only at o
      split at o
      · rename_i n
        obtain ⟨s1, gp⟩ := hidS_step (fun a m => (e2.nw a m).1) k s'
        refine o v F2 _ H' s1 nd (fun a m => ⟨?_, (nw a m).2⟩) (RRp.flat q F2 v dq n)
        by_cases m' : a ∈ F
        · exact hidS_in m'
        · rw [hidS_out m']; exact (nw a m).1
      · exact o.elim
/-- a list of one's own whose items are never changed any more -/
def vOwR (f : FE) : FE := fun env => match f env with
  | .val (.rg (.lst qs)) => (match RD.toDs qs with
    | some ds => .val (.ow ds)
    | none => .stuck)
  | .err c => .err c
  | _ => .stuck
theorem ve_owR (h : VE X T EX B e f) : VE X T EX B e (vOwR f) := pe_weak h fun σ H Q q => by
  obtain ⟨G, env, S, o⟩ := q
  refine ⟨G, env, S, ?_⟩
  unfold vOwR at o
  revert o
  cases f env with
  | err c => exact fun o => o
  | stuck => exact fun o => o
  | val w =>
    cases w with
    | ob _ _ => exact fun o => o.elim
    | sh d => exact fun o => o.elim
    | ow es => exact fun o => o.elim
    | rg r =>
      cases r with
      | dat _ => exact fun o => o.elim
      | tup _ => exact fun o => o.elim
      | ins _ _ => exact fun o => o.elim
      | jk => exact fun o => o.elim
      | dic _ => exact fun o => o.elim
      | lst qs =>
        intro o
        dsimp only at o
        split at o
        rotate_left
        · exact o.elim
        rename_i ds ed
        intro v F G' H' s nd nw rp
        cases rp with
        | lst hp ra =>
          rename_i p vs Sq
          have n1 := List.nodup_cons.mp nd
          have st := s.frzS (S := Sq) (fun a m => nw a (List.mem_cons_of_mem _ m)) (RRpAll.at _ _ _ ra)
          have np := nw p List.mem_cons_self
          exact o p vs _ H' st np.2 (by rw [addS_out n1.1]; exact np.1) hp (RRpAll.frz (addS_same fun a m => (nw a (List.mem_cons_of_mem _ m)).1) _ _ _ ds ra (fun a m => addS_in m) ed)
theorem vs_ownN (i : Nat) {x : Str} {pos' : Pos} (nd : X.N.Nodup) (he : VE X T EX B e f) (hi : X.N[i]? = some x := by rfl) (hx : Loc X.env.scope x := by first | exact .inl rfl | exact .inr rfl) (hs : swapsWith e (some (.Name x pos')) pos.line X.env = pure false := by rfl) (hf : X.fn x = true ∨ X.env.scope.names.lookup x = some .local := by first | exact .inl rfl | exact .inr rfl) :
    VS X T EX B (.Assign [.Name x pos'] e pos) (sOwn i f) := ps_weak (ps_set nd hi hx he hs hf) fun D σ H q => by
  obtain ⟨G, env, S, o⟩ := q
  exact seqS S o fun v _ o => set_ow S o
/-- x, y = z, e : z's list is x's from here on -/
def sMov (i j l : Nat) (g : FE) : FS := fun env => match env[l]? with
  | some (some (.ow ds)) => if l ≠ i ∧ l ≠ j then (g env).s fun w => .nx (((env.set j (some (kp false w))).set l none).set i (some (.ow ds))) else .stuck
  | _ => .stuck
theorem vs_mov (i j l : Nat) {x y z : Str} {px py pz pt : Pos} {kt k' pt2} (C : Cv X T EX B) (hb : VE X T EX B b g) (hi : X.N[i]? = some x := by rfl) (hj : X.N[j]? = some y := by rfl) (hl : X.N[l]? = some z := by rfl) (hij : i ≠ j := by decide)
    (hx : X.env.scope.names.lookup x = some .local := by rfl) (hy : X.env.scope.names.lookup y = some .local := by rfl) (vz : Vis X.env.scope z := by first | exact Or.inl rfl | exact Or.inr (Or.inl rfl) | exact Or.inr (Or.inr rfl)) (hdz : (z == ("__debug__" : Str)) = false := by decide) (hcz : (z == ("__classdict__" : Str)) = false := by decide)
    (hs1 : starEach [.Name z pz, b] X.env = (false, eval (.Name z pz) X.env) :: starEach [b] X.env := by rfl) (hs2 : starEach [b] X.env = [(false, eval b X.env)] := by rfl)
    (hw : swappedStores [.Tuple [.Name x px, .Name y py] kt pt] (.Tuple [.Name z pz, b] k' pt2) X.env = pure (some [x, y]) := by rfl) (hs : swapsWithSole [.Tuple [.Name x px, .Name y py] kt pt] (.Tuple [.Name z pz, b] k' pt2) pos.line X.env = pure false := by rfl) :
    VS X T EX B (.Assign [.Tuple [.Name x px, .Name y py] kt pt] (.Tuple [.Name z pz, b] k' pt2) pos) (sMov i j l g) := by
  refine ps_weak (ps_par C.calm C.nd hi hj hij hx hy (pa_cons (pe_var hl vz hdz hcz) (pa_cons hb pa_nil hs2) hs1) hw hs) fun D σ H q => ?_
  obtain ⟨G, env, S, o⟩ := q
  unfold sMov at o
  split at o
  rotate_left
  · exact o.elim
  rename_i ds el
  split at o
  rotate_left
  · exact o.elim
  rename_i hn
  obtain ⟨p, xs, h1, h2, h3, h4, h5⟩ := S.ow l ds el
  refine ⟨.ref p, h1, rdV_mono (seqK (kb := false) S o) fun w H2 ⟨dw, G2, s2, q2, S2, o2⟩ => ⟨_, w, rfl, ?_⟩⟩
  have S3 := S2.setO (i := j) q2 S.st.hh (fr_old S) (frR_old S s2)
  have el3 : (env.set j (some (kp false dw)))[l]? = some (some (.ow ds)) := by rw [List.getElem?_set_ne (Ne.symm hn.2)]; exact el
  have hl3 : (σ.set j (some w))[l]? = some (some (.ref p)) := by rw [List.getElem?_set_ne (Ne.symm hn.2)]; exact h1
  obtain ⟨p', ys, k1, k2, k3, k4, k5⟩ := S3.ow l ds el3
  rw [hl3] at k1
  cases k1
  have S4 := S3.forget l
  have S5 := S4.setOw (i := i) (p := p) (xs := ys) (ds := ds) k4 k3 k2 k5 (fun j' es e1 _ e2 => by
    by_cases z : l = j'
    · subst z
      have : (List.set (env.set j (some (kp false dw))) l none)[l]? = some none ∨ (List.set (env.set j (some (kp false dw))) l none)[l]? = none := by
        by_cases q : l < (env.set j (some (kp false dw))).length
        · exact .inl (List.getElem?_set_self q)
        · exact .inr (List.getElem?_eq_none (by rw [List.length_set]; omega))
      rcases this with q | q <;> rw [q] at e1 <;> cases e1
    · rw [List.getElem?_set_ne z] at e1
      exact z (S3.ap l j' ds es p el3 e1 hl3 e2)) (fun j' r v F e1 _ e2 rp => by
    have e1' : (env.set j (some (kp false dw)))[j']? = some (some (.rg r)) := by
      by_cases z : l = j'
      · subst z
        have : (List.set (env.set j (some (kp false dw))) l none)[l]? = some none ∨ (List.set (env.set j (some (kp false dw))) l none)[l]? = none := by
          by_cases q : l < (env.set j (some (kp false dw))).length
          · exact .inl (List.getElem?_set_self q)
          · exact .inr (List.getElem?_eq_none (by rw [List.length_set]; omega))
        rcases this with q | q <;> rw [q] at e1 <;> cases e1
      · rw [List.getElem?_set_ne z] at e1
        exact e1
    obtain ⟨_, v', F', g1, g2, g3⟩ := S3.rg j' r e1'
    rw [e2] at g1
    cases g1
    have := RRp.det r F' F v g2.rp rp fun _ _ => rfl
    rw [this]
    exact g3 l ds p el3 hl3)
  rw [List.set_comm _ _ (Ne.symm hij)] at S5
  exact o2 G2 _ H2 (Same.refl _) S5
/-- for w in e[j]: spoil(w), e new and one's own -/
noncomputable def sSpE (k j w : Nat) (f : FE) : FS := fun env => match f env with
  | .val (.rg (.tup rs)) => open Classical in if ∃ ds, rs[j]? = some (.lst (deepRs ds)) ∧ trsB ds = true ∧ tdeps ds ≤ k ∧ w < env.length then .nx (env.set w none) else .stuck
  | .err c => .err c
  | _ => .stuck
theorem sSpE_ok {k j w : Nat} {rs : List RD} {ds : List VL.D} (e : f env = .val (.rg (.tup rs))) (er : rs[j]? = some (.lst (deepRs ds))) (t : trsB ds = true) (td : tdeps ds ≤ k) (hw : w < env.length) :
    sSpE k j w f env = .nx (env.set w none) := by
  unfold sSpE
  rw [e]
  dsimp only
  rw [if_pos ⟨ds, er, t, td, hw⟩]
end
end VL
namespace VL
open PySem L2
section
variable {X : Cx} {T : Ct} {EX : XK} {B : Hp × Hp} {e a b c o tg : Expr} {es : List Expr} {pos p p2 px : Pos} {f g h : FE} {fs : List FE} {G H G1 H1 : Hp} {Q : VK} {st : Stmt} {sts : List Stmt} {s t : FS} {D : Ends} {σ : L2.St} {env : VEnv}
theorem vs_spE (j w : Nat) {k jj : Nat} {y g : Str} {py pw p1 pi pg pc : Pos} {spos : Pos} (C : Cv X T EX B) (po : PassesOwn (model X.prog X.w) X.A X.env X.xe) (F : FnX X.prog X.w X.K X.mg X.base k g (spSp T k)) (hr : Room k X.A) (hg : Gl X g) (he : VE X T EX B e f) (hw : X.N[w]? = some y := by rfl)
    (vw : Vis X.env.scope y := by first | exact Or.inl rfl | exact Or.inr (Or.inl rfl) | exact Or.inr (Or.inr rfl)) (lw : Loc X.env.scope y := by first | exact .inl rfl | exact .inr rfl) (fw : X.fn y = true ∨ X.env.scope.names.lookup y = some .local := by first | exact .inl rfl | exact .inr rfl)
    (dw : (y == ("__debug__" : Str)) = false := by decide) (cw : (y == ("__classdict__" : Str)) = false := by decide) (dg : (g == ("__debug__" : Str)) = false := by decide)
    (pli : PlainIx (.Constant (.int (j : Nat)) jj p1) := by intro _ _; rfl) (hs : starEach [.Name y pw] X.env = (false, eval (.Name y pw) X.env) :: starEach [] X.env := by rfl) (hpl : ((backTo pc (starEach [] X.env)).any fun z => z.1) = false := by rfl) (hsw : swapsWith (.Call (.Name g pg) [.Name y pw] [] pc) none spos.line X.env = pure false := by rfl)
    (hfs : ∀ z, foldedSetIterable (.Subscript e (.Constant (.int (j : Nat)) jj p1) pi) X.env z = pure z := by intro _; rfl) :
    VS X T EX B (.For (.Name y py) (.Subscript e (.Constant (.int (j : Nat)) jj p1) pi) [.Expr (.Call (.Name g pg) [.Name y pw] [] pc) spos] [] pos) (sSpE k j w f) := by
  obtain ⟨fa, fd, ps, F, hm, hk, hb⟩ := F
  refine ps_weak (ps_for (tb := tbSp T EX k w) po C.calm (pi_list (pe_ix ix_tup he pe_int pli)) (pg_name (i := w) C.nd hw lw fw)
    (pss_one (ps_expr (pe_callG (E := fun _ => EX) F C.gd hr hg hm hk hb (fun σ pn H s e s' => C.pass pn σ H s e s') (pa_cons (pe_var hw vw dw cw) pa_nil hs) dg hs hpl) hsw)) hfs) fun D σ H q => ?_
  obtain ⟨G, env, S, o⟩ := q
  refine ⟨G, env, S, ?_⟩
  unfold sSpE at o
  revert o
  cases f env with
  | err c => exact fun o H' z => o H' (S.st.hh.trans z)
  | stuck => exact fun o => o.elim
  | val w' =>
    cases w' with
    | sh _ => exact fun o => o.elim
    | ow _ => exact fun o => o.elim
    | ob _ _ => exact fun o => o.elim
    | rg r =>
      cases r with
      | dat _ => exact fun o => o.elim
      | lst _ => exact fun o => o.elim
      | ins _ _ => exact fun o => o.elim
      | jk => exact fun o => o.elim
      | dic _ => exact fun o => o.elim
      | tup rs =>
        intro o
        dsimp only at o
        split at o
        rotate_left
        · exact o.elim
        rename_i cd
        obtain ⟨ds, er, tr, td, hwl⟩ := cd
        intro v F G1 H1 s1 nd nw rp
        cases rp with
        | tup h q =>
          rename_i a vs Sa
          have n1 := List.nodup_cons.mp nd
          obtain ⟨p, xs, Sq, g1, g2, g3, g4, g5, g6, g7⟩ := RRpAll.sub j q er n1.2
          obtain ⟨L, f1, f2, f3, f4⟩ := tl_of (rrps_Z0 ds _ _ g3) tr
          have nq : ∀ b ∈ Sq, G1 b = none ∧ H b = none := fun b m => nw b (List.mem_cons_of_mem _ (g6.subset m))
          refine ⟨a, vs, (j : Nat), .ref p, rfl, rfl, .inl (.inl h), atI_nat g1, p, rfl, ⟨xs, .inl (.inl g2)⟩, ?_⟩
          refine sp_turns (T := T) (E := EX) (k := k) (w := w) (L := L) (S.len ▸ hwl) (by rw [f1]; exact g2) (by rw [f3]; exact g5) f4 (by rw [f3]; exact n1.2.sublist g6) (fun t m => ?_) fun H2 o' sp ho => ?_
          · have : t.2.1 ∈ ds := by rw [← f2]; exact List.mem_map.mpr ⟨t, m, rfl⟩
            exact Nat.le_trans (tdeps_mem this) td
          rw [f3] at sp
          have st : Step G H G1 H2 := ⟨fun b u z => by
            rw [sp.out b fun m => by rw [(nq b m).2] at z; cases z]
            exact s1.hh b u z, s1.gg, fun b u z => by
            rw [sp.out b fun m => by rw [(nq b m).1] at z; cases z]
            exact s1.gh b u z, s1.nw, s1.nm⟩
          have S2 := S.step st
          rcases ho with rfl | ⟨v2, rfl⟩
          · exact o G1 _ H2 s1.gg (S2.forget w)
          · exact o G1 _ H2 s1.gg (S2.setNone (i := w))
theorem ps_setLcV (i : Nat) {y : Str} {py : Pos} {elt iter : Expr} {ifs : List Expr} {scope : Scope} {own : List (Str × Nat)} {spos : Pos} {gt : TG} {is : List Nat} {tt : Tg} {it : FI} {fc fe : FE} (C : Cv X T EX B)
    (hi : VI X T EX B tg iter it) (ok : BlkOk X.N X.env.scope scope own) (hr : TgRun T B gt is tt)
    (hg : ∀ (s : Shared) (H : Hp) (C : Addr) (cl : List (Str × Addr)) (fp : List Addr), PG (X.blk s H scope (compEnvC scope cl C X.env) fp) tg gt) (ht : ∀ (s : Shared) (H : Hp) (C : Addr) (cl : List (Str × Addr)) (fp : List Addr), VTs (X.blk s H scope (compEnvC scope cl C X.env) fp) T B ifs fc)
    (he : ∀ (s : Shared) (H : Hp) (C : Addr) (cl : List (Str × Addr)) (fp : List Addr), VE (X.blk s H scope (compEnvC scope cl C X.env) fp) T E0 B elt fe) (hsub : ∀ i ∈ is, i ∈ own.map (·.2) := by decide) (hs : ∀ x, foldedSetIterable iter X.env x = pure x := by intro _; rfl)
    (hy : X.N[i]? = some y := by rfl) (hyl : X.env.scope.names.lookup y = some .local := by rfl) (hsw : swapsWith (.ListComp elt [⟨tg, iter, ifs, 0⟩] scope pos) (some (.Name y py)) spos.line X.env = pure true := by exact sw_true rfl rfl rfl (by decide +kernel)) :
    PS X (.Assign [.Name y py] (.ListComp elt [⟨tg, iter, ifs, 0⟩] scope pos) spos) (tAsg (rdV T EX B (vLc (own.map (·.2)) tt it fc fe)) (gName i)) := ps_weak (ps_setLc C.calm C.nd hy hyl hsw hi ok hg ht he hs) fun D σ H q => lc_use hr hsub q
/-- y = g(x.pop(k)) -/
def sPopCal (i j k : Nat) (m : List SV → R) : FS := fun env => match env[j]? with
  | some (some (.ow ds)) => (match ds[k]? with
    | some d => if ds.length ≤ 1000000 then (m [.sh d]).s fun v => .nx ((env.set j (some (.ow (ds.eraseIdx k)))).set i (some v.fz)) else .stuck
    | none => .stuck)
  | _ => .stuck
theorem vs_popCal (i j : Nat) {kn : Nat} {k : Nat} {m : List SV → R} {g x y : Str} {px py pg pk apos cpos pc : Pos} {jj : Nat} (C : Cv X T EX B) (F : Fn X.prog X.w X.K X.mg X.base T k g 1 m) (hr : Room k X.A) (hg : Gl X g) (hN : X.N[j]? = some x := by rfl) (hv : Vis X.env.scope x := by first | exact Or.inl rfl | exact Or.inr (Or.inl rfl) | exact Or.inr (Or.inr rfl)) (hd : (x == ("__debug__" : Str)) = false := by decide) (hcd : (x == ("__classdict__" : Str)) = false := by decide)
    (hline : (apos.endLine == cpos.line) = true := by rfl) (hs : starEach [.Constant (.int (kn : Nat)) jj pk] X.env = [(false, eval (.Constant (.int (kn : Nat)) jj pk) X.env)] := by rfl) (hi : X.N[i]? = some y := by rfl) (hx : Loc X.env.scope y := by first | exact .inl rfl | exact .inr rfl) (hf : X.fn y = true ∨ X.env.scope.names.lookup y = some .local := by first | exact .inl rfl | exact .inr rfl)
    (dg : (g == ("__debug__" : Str)) = false := by decide)
    (hs2 : starEach [.Call (.Attribute (.Name x px) "pop" apos) [.Constant (.int (kn : Nat)) jj pk] [] cpos] X.env = (false, eval (.Call (.Attribute (.Name x px) "pop" apos) [.Constant (.int (kn : Nat)) jj pk] [] cpos) X.env) :: starEach [] X.env := by rfl) (hpl : ((backTo pc (starEach [] X.env)).any fun z => z.1) = false := by rfl)
    (hsw : swapsWith (.Call (.Name g pg) [.Call (.Attribute (.Name x px) "pop" apos) [.Constant (.int (kn : Nat)) jj pk] [] cpos] [] pc) (some (.Name y py)) pos.line X.env = pure false := by rfl) :
    VS X T EX B (.Assign [.Name y py] (.Call (.Name g pg) [.Call (.Attribute (.Name x px) "pop" apos) [.Constant (.int (kn : Nat)) jj pk] [] cpos] [] pc) pos) (sPopCal i j kn m) := by
  obtain ⟨fa, fd, ps, F, hm, hk, hb⟩ := F
  refine ps_weak (ps_set C.nd hi hx (pe_callG (E := fun _ => EX) F C.gd hr hg hm hk hb (fun σ pn H s e s' => C.pass pn σ H s e s') (pa_cons (pe_bm PySem.F.plainAttrs_list PySem.F.slot_list_pop PySem.F.type_list_pop mt_popAt (pe_var hN hv hd hcd) (pa_cons pe_int pa_nil hs) rfl (by rw [hs]; rfl) hline hs rfl) pa_nil hs2) dg hs2 hpl) hsw hf) fun D σ H q => ?_
  obtain ⟨G, env, S, o⟩ := q
  unfold sPopCal at o
  split at o
  rotate_left
  · exact o.elim
  rename_i ds ei
  split at o
  rotate_left
  · exact o.elim
  rename_i d hdd
  split at o
  rotate_left
  · exact o.elim
  rename_i hl
  obtain ⟨p, xs, h1, h2, h3, h4, h5⟩ := S.ow j ds ei
  obtain ⟨v, hy, dy⟩ := h5.get hdd
  have lk : kn < ds.length := (List.getElem?_eq_some_iff.mp hdd).1
  have S2 := S.write ei h1 (h5.erase kn)
  refine ⟨.ref p, h1, .inl ⟨rfl, xs, SqL.of h2⟩, p, xs, (kn : Nat), kn, v, rfl, rfl, h2, by omega, by omega, ?_, hy, G, [.sh d], S2.gh, S2.st.nm S2.nb, S2.me, .cons dy .nil, rfl, ?_⟩
  · rw [h5.length]; exact seqIx (by omega) (by omega)
  revert o
  cases m [.sh d] with
  | err c => exact fun o H' z => o H' (S2.st.hh.trans z)
  | stuck => exact fun o => o.elim
  | val v => exact fun o => set_fz S2 o
/-- x.remove(e), x one's own, of ints -/
def sRem (i : Nat) (f : FE) : FS := fun env => match env[i]? with
  | some (some (.ow ds)) => (match evA [f] env with
    | .val [a] => (match a, intsOf ds with
      | .sh (.int k), some ns => (match idxOf ns k with
        | some j => .nx (env.set i (some (.ow ((ns.eraseIdx j).map .int))))
        | none => .stuck)
      | _, _ => .stuck)
    | .err c => .err c
    | _ => .stuck)
  | _ => .stuck
theorem ints_dq : ∀ ns : List Int, DqAll G (ns.map V.int) (ns.map .int)
  | [] => .nil
  | n :: ns => .cons Dq.int (ints_dq ns)
theorem vs_rem (i : Nat) {x : Str} {px apos cpos : Pos} (he : VE X T EX B e f) (hN : X.N[i]? = some x := by rfl) (hv : Vis X.env.scope x := by first | exact Or.inl rfl | exact Or.inr (Or.inl rfl) | exact Or.inr (Or.inr rfl)) (hd : (x == ("__debug__" : Str)) = false := by decide) (hcd : (x == ("__classdict__" : Str)) = false := by decide)
    (hline : (apos.endLine == cpos.line) = true := by rfl) (hs : starEach [e] X.env = [(false, eval e X.env)] := by rfl) :
    VS X T EX B (.Expr (.Call (.Attribute (.Name x px) "remove" apos) [e] [] cpos) pos) (sRem i f) := by
  refine ps_weak (ps_expr (pe_bm PySem.F.plainAttrs_list PySem.F.slot_list_remove PySem.F.type_list_remove mt_remove (pe_var hN hv hd hcd) (va_cons he va_nil hs) rfl (by rw [hs]; rfl) hline hs rfl) rfl) fun D σ H q => ?_
  obtain ⟨G, env, S, o⟩ := q
  unfold sRem at o
  split at o
  rotate_left
  · exact o.elim
  rename_i ds ei
  obtain ⟨p, xs, h1, h2, h3, h4, h5⟩ := S.ow i ds ei
  refine ⟨.ref p, h1, .inl ⟨rfl, xs, SqL.of h2⟩, args1 (D := D) (K := fun a => match a, intsOf ds with
      | .sh (.int k), some ns => (match idxOf ns k with
        | some j => .nx (env.set i (some (.ow ((ns.eraseIdx j).map .int))))
        | none => .stuck)
      | _, _ => .stuck) S o fun a v G1 H1 s1 rp S1 o1 => ?_⟩
  split at o1
  · rename_i k ns ek
    split at o1
    · rename_i j ej
      obtain ⟨i1, i2⟩ := idxOf_spec ej
      obtain ⟨h3', h2'⟩ := s1.own h3 h2
      have ex := intsOf_ok ek h5
      subst ex
      have hv : v = .int k := Dq.intInv rp
      subst hv
      refine ⟨p, ns, k, j, rfl, rfl, h2', i1, fun m hm z => i2 m hm k z rfl, ?_⟩
      exact o1 G1 _ _ (Same.refl _) (S1.write ei h1 (ints_dq _))
    · exact o1.elim
  · exact o1.elim
end
/-! ### joined_of by places, its data, too -/
def spJd (T : Ct) (m : List SV → R) : Sp := fun vs H Q E => ∃ (p1 p2 : Addr) (M1 M2 : List Tri) (rs : List D) (n : Int), vs = [.ref p1, .ref p2] ∧ H p1 = some (.lst (M1.map (·.1))) ∧ H p2 = some (.lst (M2.map (·.1))) ∧ TL T H (M1 ++ M2) ∧ (Ad (M1 ++ M2)).Nodup ∧ M1.length ≤ 100 ∧ M2.length ≤ 100 ∧ (∀ t ∈ M1 ++ M2, ordD t.2.1 ≤ 1000) ∧
  (m [.sh (.list (M1.map fun t : Tri => t.2.1)), .sh (.list (M2.map fun t : Tri => t.2.1))]).data = some (.tuple [.list rs, .int n]) ∧
  ∀ pt pf F H', SameH H H' → H pt = none → H pf = none → H' pt = some (.tup [.ref pf, .int n]) → H' pf = some (.lst (F.map (·.1))) → F.map (fun t : Tri => t.2.1) = rs → TL T H' F → (pt :: pf :: Ad F).Nodup → (∀ a ∈ Ad F, a ∈ Ad (M1 ++ M2) ∨ H a = none) → Q (.ref pt) H'
theorem lnJd {T : Ct} {m : List SV → R} {vs : List V} {H : Hp} {Q : VK} {E : XK} (h : spJd T m vs H Q E) : vs.length = 2 := by obtain ⟨_, _, _, _, _, _, rfl, _⟩ := h; rfl
theorem jd_and {P : Program} {w : World} {K : PySem.W.Frag} {mg : Str → Option Value} {bs : Heap} {T : Ct} {k : Nat} {f : Addr} {fd : FuncData} {ps : List Str} {m : List SV → R} (hT : T.me = none)
    (A : FnGd P w K mg bs (L2.CX P w) k f fd ps (spV T 2 m)) (B : FnGd P w K mg bs (L2.CX P w) k f fd ps (spJ T)) : FnGd P w K mg bs (L2.CX P w) k f fd ps (spJd T m) := by
  refine ⟨fun xs H Q E h => ?_, fun Ar ou s H ar us xs Q E hq hr e0 hb hv h => ?_⟩
  · obtain ⟨p1, p2, M1, M2, rs, n, rfl, h1, h2, tl, nd, n1, n2, no, ed, q⟩ := h
    exact B.ln _ H (fun _ _ => True) E ⟨p1, p2, M1, M2, rfl, h1, h2, tl, nd, n1, n2, no, fun _ _ _ _ _ _ _ _ _ _ _ _ _ => trivial⟩
  obtain ⟨p1, p2, M1, M2, rs, n, rfl, h1, h2, tl, nd, n1, n2, no, ed, q⟩ := h
  have d1 : Dq (nM H) (.ref p1) (.list (M1.map fun t : Tri => t.2.1)) := tl_lst (tl.sub fun t m => List.mem_append_left _ m) h1
  have d2 : Dq (nM H) (.ref p2) (.list (M2.map fun t : Tri => t.2.1)) := tl_lst (tl.sub fun t m => List.mem_append_right _ m) h2
  have a1 := A.go Ar ou s H ar us _ (fun v H' => Dq H' v (.tuple [.list rs, .int n])) E hq hr e0 hb hv ⟨nM H, [.sh (.list (M1.map fun t : Tri => t.2.1)), .sh (.list (M2.map fun t : Tri => t.2.1))], nM_same, nM_no, (fun a z => by rw [hT] at z; cases z), .cons d1 (.cons d2 .nil), rfl, out_data ed fun v H' _ dq => dq⟩
  have a2 := B.go Ar ou s H ar us _ (fun v H' => ∃ pt pf n F, v = .ref pt ∧ SameH H H' ∧ H pt = none ∧ H pf = none ∧ H' pt = some (.tup [.ref pf, .int n]) ∧ H' pf = some (.lst (F.map (·.1))) ∧ TL T H' F ∧ (pt :: pf :: Ad F).Nodup ∧ (∀ a ∈ Ad F, a ∈ Ad (M1 ++ M2) ∨ H a = none)) E hq hr e0 hb hv ⟨p1, p2, M1, M2, rfl, h1, h2, tl, nd, n1, n2, no, fun pt pf n F H' b1 b2 b3 b4 b5 b6 b7 b8 => ⟨pt, pf, n, F, rfl, b1, b2, b3, b4, b5, b6, b7, b8⟩⟩
  refine codeAny_mono (code_and a1 a2) fun r s' ⟨r1, r2⟩ => ?_
  cases r with
  | error e => exact r1
  | ok fl =>
    cases fl with
    | next => exact r1
    | brk => exact r1
    | cont => exact r1
    | ret u =>
      obtain ⟨v1, H1, _, _, _, ok1, rv1, dq1⟩ := r1
      obtain ⟨v2, H2, os, br, un, ok2, rv2, pt, pf, n', F, rfl, b1, b2, b3, b4, b5, b6, b7, b8⟩ := r2
      have ev := relV_one rv1 rv2
      subst ev
      have dq2 := (lo_dq (q_end (v := .non) b4 b5 b6)).mono nM_same
      have ed := dp_two ok1 ok2 _ _ _ dq1.dp dq2.dp
      simp only [PyData.tuple.injEq, List.cons.injEq, PyData.list.injEq, PyData.int.injEq, and_true] at ed
      obtain ⟨e1, e2⟩ := ed
      subst e2
      exact ⟨_, H2, os, br, un, ok2, rv2, q pt pf F H2 b1 b2 b3 b4 b5 e1.symm b6 b7 b8⟩
/-! ### pile_of -/
def cdO (cc mj : List SV → R) (as : List SV) : Prop := ∃ ks : List Int, as = [.sh (.list (ks.map .int))] ∧ ks.length ≤ 40 ∧ (∃ w, cc [.sh (.list (ks.map .int))] = .val w) ∧ ∃ st : Nat → List D, st 0 = [] ∧ ∀ i ky, ks[i]? = some ky → (st i).length ≤ 100 ∧ (∀ d ∈ st i, ordD d ≤ 1000) ∧ ∃ n, (mj [.sh (.list (st i)), .sh (.list [.tuple [.int ky, .list []]])]).data = some (.tuple [.list (st (i + 1)), .int n])
def tPOb (T : Ct) (E : XK) (K : PySem.W.Frag) (mj : List SV → R) : TS := tSeq (tAsg (tCallS (spJd T mj) (fun _ => E) (tCons (tVar 1) (tCons (tLst (tCons (tTup (tCons (tVar 3) (tCons (tLst tNil) tNil))) tNil)) tNil))) (gTup K 2 (gCons (gName 1) (gCons (gName 4) gNil)))) (tAug 2 (tVar 4) (ipI fun i j => i + j))
def tPO (T : Ct) (E : XK) (K : PySem.W.Frag) (cc mj : List SV → R) : TS := tSeq (tDrop (rdV T E B0 (calF 1 cc [vVar 0]))) (tSeq (tPar 1 2 (tCons (tLst tNil) (tCons (rdV T E B0 (vC (.int 0))) tNil))) (tSeq (tFor (iList K (tVar 0)) (gName 3) (tPOb T E K mj)) (tRet (tTup (tCons (tVar 1) (tCons (tVar 2) tNil))))))
section
variable {T : Ct} {E EX : XK} {K : PySem.W.Frag} {G H H' H1 : Hp} {Q : VK} {c : List SV → R} {D : Ends} {σ : L2.St}
theorem po_core {cc mj : List SV → R} (hT : T.me = none) {vs : List V} (h : spLo T (cdO cc mj) vs H Q E) : ∃ x, vs = [x] ∧ tPO T E K cc mj { nx := fun _ H' => Q .non H', rt := Q } [some x, none, none, none, none] H := by
  obtain ⟨G, as, gh, nm, rp, ⟨ks, rfl, lk, ⟨w1, c1⟩, st, st0, hst⟩, q⟩ := h
  cases rp with
  | cons r1 rp =>
    cases rp
    rename_i x
    have r1 : Dq G x (.list (ks.map .int)) := r1
    refine ⟨x, rfl, ?_⟩
    have e1 := r1.mono (nM_of gh nm)
    have es : EsOk H [some (.list (ks.map .int)), none, none, none, none] [some x, none, none, none, none] := ⟨rfl, fun i z e => by
      match i, e with
      | 0, e => cases e; exact ⟨x, rfl, e1⟩
      | 1, e => cases e
      | 2, e => cases e
      | 3, e => cases e
      | 4, e => cases e
      | i + 5, e => simp at e⟩
    refine rd_any (w := w1) hT _ es (by simp [shE, c1]) fun _ H1 s1 => ?_
    refine ⟨by simp, fun pf nf => rd_c hT fun v H2 s2 dv => ?_⟩
    rw [dv.intInv]
    refine ⟨_, _, rfl, ?_⟩
    have sA : SameH H1 (upd H1 pf (.lst [])) := sameH_new nf
    have hf2 : H2 pf = some (.lst []) := sameH_at s2 upd_same nmL
    have s02 := (s1.trans sA).trans s2
    obtain ⟨l, cs, rfl, ql, zl⟩ := (e1.mono (nM_step s02)).lstInv
    have zi := intsOf_ok (intsOf_map ks) zl
    subst zi
    refine ⟨.ref l, rfl, l, rfl, ⟨_, sqL_K (nM_same.seq ql)⟩, ?_⟩
    have w := walk_list (K := K) (a := l) (xs := ks.map V.int)
    refine for_it w (fun i σ Hc => SameH H2 Hc ∧ ∃ (pf : Addr) (n : Int) (x3 x4 : Option V) (F : List Tri), σ = [some (.ref l), some (.ref pf), some (.int n), x3, x4] ∧ Hc pf = some (.lst (F.map (·.1))) ∧ F.map (fun t : Tri => t.2.1) = st i ∧ TL T Hc F ∧ (pf :: Ad F).Nodup ∧ (∀ a ∈ pf :: Ad F, H a = none)) ⟨SameH.refl _, pf, 0, _, _, [], rfl, hf2, st0.symm, (fun t m => nomatch m), by simp [Ad], fun a m => ?_⟩ (fun i σ Hc _ p => ?_) ?_ ?_
    · simp [Ad] at m
      subst m
      exact free_of s1 nf
    · exact sqL_K (((nM_step p.1).trans nM_same).seq ql)
    · rintro i x σ Hc H' hi ⟨sc, pf, n, x3, x4, F, rfl, hF, hm, tl, nd, nw⟩ ⟨rfl, ex⟩
      rw [List.length_map] at hi
      have ex := ex
      rw [List.getElem?_map, List.getElem?_eq_getElem hi] at ex
      have ex : V.int ks[i] = x := Option.some.inj ex
      subst ex
      obtain ⟨b1, b2, nn, b3⟩ := hst i ks[i] (List.getElem?_eq_getElem hi)
      generalize ks[i] = ky at b3
      refine ⟨.ref pf, rfl, .int ky, rfl, by simp, fun pe ne => ⟨by simp; exact Nat.le_of_lt (gl_line (by omega)), fun pt nt => ⟨by simp; exact Nat.le_of_lt (gl_line (by omega)), fun pl nl => ?_⟩⟩⟩
      have sa : SameH H' (upd H' pe (.lst [])) := sameH_new ne
      have sb : SameH (upd H' pe (.lst [])) (upd (upd H' pe (.lst [])) pt (.tup [.int ky, .ref pe])) := sameH_new nt
      have sd : SameH (upd (upd H' pe (.lst [])) pt (.tup [.int ky, .ref pe])) (upd (upd (upd H' pe (.lst [])) pt (.tup [.int ky, .ref pe])) pl (.lst [.ref pt])) := sameH_new nl
      have c1 := sameH_at (sb.trans sd) (upd_same (H := H') (a := pe) (o := .lst [])) nmL
      have c2 := sameH_at sd (upd_same (H := upd H' pe (.lst [])) (a := pt) (o := .tup [.int ky, .ref pe])) nmT
      have c3 := upd_same (H := upd (upd H' pe (.lst [])) pt (.tup [.int ky, .ref pe])) (a := pl) (o := .lst [.ref pt])
      have sx := (sa.trans sb).trans sd
      have npe : pt ≠ pe := fun z => by rw [z, upd_same] at nt; cases nt
      have nt4 : H' pt = none := free_of sa nt
      revert c1 c2 c3 sx
      generalize upd (upd (upd H' pe (.lst [])) pt (.tup [.int ky, .ref pe])) pl (.lst [.ref pt]) = H5
      intro c1 c2 c3 sx
      have leaf := lo_mk (T := T) (ds := []) (S := []) c2 c1 (by rw [deepRs]; exact .nil)
      have len1 : F.length ≤ 100 := by
        have := congrArg List.length hm
        rw [List.length_map] at this
        omega
      have nd2 := (List.nodup_cons.mp nd)
      have s0c := s02.trans sc
      have ndA : (Ad (F ++ [(V.ref pt, PyData.tuple [.int ky, .list []], [pt, pe])])).Nodup := by
        rw [ad_app, ad_cons, ad_nil, List.append_nil]
        refine List.nodup_append.mpr ⟨nd2.2, by simp [npe], fun a m b n e => ?_⟩
        subst e
        simp only [List.mem_cons, List.not_mem_nil, or_false] at n
        rcases n with n | n
        · subst n; exact tl.at m nt4
        · subst n; exact tl.at m ne
      have nwA : ∀ a ∈ Ad (F ++ [(V.ref pt, PyData.tuple [.int ky, .list []], [pt, pe])]), H a = none := fun a m => by
        rw [ad_app, ad_cons, ad_nil, List.append_nil] at m
        rcases List.mem_append.mp m with m | m
        · exact nw a (List.mem_cons_of_mem _ m)
        · simp only [List.mem_cons, List.not_mem_nil, or_false] at m
          rcases m with m | m
          · subst m; exact free_of s0c nt4
          · subst m; exact free_of s0c ne
      refine ⟨pf, pl, F, [(V.ref pt, PyData.tuple [.int ky, .list []], [pt, pe])], st (i + 1), nn, rfl, sameH_at sx hF nmL, c3, TL.append (tl.step sx) (fun t m => ?_), ndA, len1, by simp, fun t m => ?_, by rw [hm]; exact b3, fun pt' pf' F' H6 s6 np1 np2 a1 a2 hm' tlF ndF ha => ?_⟩
      · have := List.mem_singleton.mp m
        subst this
        exact ⟨by rw [trB_tup]; simp [trsB], leaf⟩
      · rcases List.mem_append.mp m with m | m
        · exact b2 t.2.1 (by rw [← hm]; exact List.mem_map.mpr ⟨t, m, rfl⟩)
        · have := List.mem_singleton.mp m
          subst this
          simp [ordD]
      · refine ⟨pt', _, rfl, .inl (.inl a1), rfl, .ref pf', _, rfl, .int nn, _, rfl, rfl, ?_⟩
        refine ⟨.int n, rfl, .int nn, rfl, n, nn, rfl, rfl, (sc.trans sx).trans s6, pf', n + nn, _, _, F', rfl, a2, hm', tlF, (List.nodup_cons.mp ndF).2, fun a m => ?_⟩
        rcases List.mem_cons.mp m with m | m
        · subst m; exact free_of (s0c.trans sx) np2
        · exact (ha a m).elim (nwA a) (free_of (s0c.trans sx))
    · rintro σ Hc ⟨sc, pf, n, x3, x4, F, rfl, hF, hm, tl, nd, nw⟩
      refine ⟨_, rfl, _, rfl, by simp; exact Nat.le_of_lt (gl_line (by omega)), fun pt nt => ?_⟩
      have sT : SameH Hc (upd Hc pt (.tup [.ref pf, .int n])) := sameH_new nt
      refine q (.ref pt) (pt :: pf :: Ad F) _ _ ((s02.trans sc).trans sT) (List.nodup_cons.mpr ⟨fun z => ?_, nd⟩) (fun a m => ?_) (q_end (v := .non) upd_same (sameH_at sT hF nmL) (tl.step sT))
      · rcases List.mem_cons.mp z with z | z
        · rw [z, hF] at nt; cases nt
        · exact tl.at z nt
      · rcases List.mem_cons.mp m with m | m
        · subst m; exact free_of (s02.trans sc) nt
        · exact nw a m
end
end VL
namespace HM
open PySem L2 VL
def b_is_key : FS := sRet (vAnd (op1 (fun d => rb (isInt d)) (vVar 0)) (vNot (op1 (fun d => rb (isBool d)) (vVar 0))))
def m_is_key : Nat → List SV → R
  | 0 => fun _ => .stuck
  | k + 1 => runB 1 (b_is_key)
def b_order_of : FS := sRet (cal1 fLen (op2 fIx (vVar 0) (vC (.int 1))))
def m_order_of : Nat → List SV → R
  | 0 => fun _ => .stuck
  | k + 1 => runB 1 (b_order_of)
def p_is_tree_1 (c_is_key : List SV → R) (c_is_tree : List SV → R) : FS := sIf (vOr (vNot (calF 2 c_is_tree [vVar 3, op2 fSub (op2 fSub (vVar 1) (vC (.int 1))) (vVar 2)])) (op2 fLt (op2 fIx (vVar 3) (vC (.int 0))) (op2 fIx (vVar 0) (vC (.int 0))))) (sRet (vC (.bool false))) (sNil)
def b_is_tree (c_is_key : List SV → R) (c_is_tree : List SV → R) : FS := sSeq (sIf (vOr (vNot (op1 (fun d => rb (isTup d)) (vVar 0))) (vOr (op2 fNe (cal1 fLen (vVar 0)) (vC (.int 2))) (vOr (vNot (calF 1 c_is_key [op2 fIx (vVar 0) (vC (.int 0))])) (vNot (op1 (fun d => rb (isList d)) (op2 fIx (vVar 0) (vC (.int 1)))))))) (sRet (vC (.bool false))) (sNil)) (sSeq (sIf (op2 fNe (cal1 fLen (op2 fIx (vVar 0) (vC (.int 1)))) (vVar 1)) (sRet (vC (.bool false))) (sNil)) (sSeq (sFor (tg2 2 3) (itA iE [op2 fIx (vVar 0) (vC (.int 1))]) (p_is_tree_1 c_is_key c_is_tree)) (sRet (vC (.bool true)))))
def m_is_tree : Nat → List SV → R
  | 0 => fun _ => .stuck
  | k + 1 => runB 4 (b_is_tree (m_is_key k) (m_is_tree k))
def p_is_pile_1 (c_order_of : List SV → R) (c_is_tree : List SV → R) : FS := sSeq (sIf (vOr (vNot (op1 (fun d => rb (isTup d)) (vVar 3))) (vOr (op2 fNe (cal1 fLen (vVar 3)) (vC (.int 2))) (vNot (op1 (fun d => rb (isList d)) (op2 fIx (vVar 3) (vC (.int 1))))))) (sRet (vC (.bool false))) (sNil)) (sSeq (sSet 4 (calF 1 c_order_of [vVar 3])) (sSeq (sIf (vOr (op2 fLe (vVar 4) (vVar 1)) (vOr (op2 fGt (vVar 4) (vC (.int 5))) (vNot (calF 2 c_is_tree [vVar 3, vVar 4])))) (sRet (vC (.bool false))) (sNil)) (sPar2 1 2 false false (vVar 4) (op2 fAdd (vVar 2) (op2 fShl (vC (.int 1)) (vVar 4))))))
def b_is_pile (c_order_of : List SV → R) (c_is_tree : List SV → R) : FS := sSeq (sIf (vNot (op1 (fun d => rb (isList d)) (vVar 0))) (sRet (vC (.bool false))) (sNil)) (sSeq (sUnp (tg2 1 2) (vTup [op1 fNeg (vC (.int 1)), vC (.int 0)])) (sSeq (sFor (tgN 3) (itD iL (vVar 0)) (p_is_pile_1 c_order_of c_is_tree)) (sRet (op2 fLe (vVar 2) (vC (.int 40))))))
def m_is_pile : Nat → List SV → R
  | 0 => fun _ => .stuck
  | k + 1 => runB 5 (b_is_pile (m_order_of k) (m_is_tree k))
def b_check_pile (c_is_pile : List SV → R) : FS := sIf (vNot (calF 1 c_is_pile [vVar 0])) (sRaise "BadPile") (sNil)
def m_check_pile : Nat → List SV → R
  | 0 => fun _ => .stuck
  | k + 1 => runB 1 (b_check_pile (m_is_pile k))
def b_l_cell_at : FS := sSeq (sIf (op2 fLt (vVar 1) (cal1 fLen (vVar 0))) (sRet (op2 fIx (vVar 0) (vVar 1))) (sNil)) (sRet (vC (.int 0)))
def m_l_cell_at : Nat → List SV → R
  | 0 => fun _ => .stuck
  | k + 1 => runB 2 (b_l_cell_at)
def b_l_draw : FS := sSeq (sSet 3 (vTup [vC (.int 1000003), vC (.int 1000033), vC (.int 1000037), vC (.int 1000039), vC (.int 1000081), vC (.int 1000099), vC (.int 1000117), vC (.int 1000121), vC (.int 1000133), vC (.int 1000151), vC (.int 1000159), vC (.int 1000171), vC (.int 1000183), vC (.int 1000187), vC (.int 1000193), vC (.int 1000199)])) (sRet (op2 fMod (op2 fMod (op2 fAdd (op2 fMul (vVar 0) (vC (.int 48271))) (op2 fMul (vVar 1) (vC (.int 69621)))) (op2 fIx (vVar 3) (op2 fMod (vVar 1) (vC (.int 16))))) (vVar 2)))
def m_l_draw : Nat → List SV → R
  | 0 => fun _ => .stuck
  | k + 1 => runB 4 (b_l_draw)
def b_l_number_k01 (c_l_draw : List SV → R) : FS := sSeq (sIf (op2 fGe (vVar 0) (op2 fPow (vC (.int 10)) (vC (.int 18)))) (sRet (op2 fMod (op2 fDiv (op2 fSub (vVar 0) (op2 fPow (vC (.int 10)) (vC (.int 18)))) (op2 fIx (vTup [vC (.int 1), vC (.int 7), vC (.int 49), vC (.int 343), vC (.int 2401)]) (op2 fMod (vVar 1) (vC (.int 5))))) (vVar 2))) (sNil)) (sRet (op2 fMod (calF 3 c_l_draw [op2 fMul (op2 fAdd (vVar 0) (op2 fMul (vC (.int 977)) (vVar 1))) (op2 fAdd (op2 fAdd (vVar 0) (op2 fMul (vC (.int 31)) (vVar 1))) (vC (.int 5))), op2 fAdd (op2 fMod (vVar 1) (vC (.int 9))) (vC (.int 1)), vC (.int 999983)]) (vVar 2)))
def m_l_number_k01 : Nat → List SV → R
  | 0 => fun _ => .stuck
  | k + 1 => runB 3 (b_l_number_k01 (m_l_draw k))
def p_l_row_1 (c_l_cell_at : List SV → R) (c_l_number_k01 : List SV → R) : FS := sApp 4 (op2 fSub (calF 3 c_l_number_k01 [op2 fAdd (calF 2 c_l_cell_at [vVar 0, op2 fAdd (op2 fAdd (vVar 1) (vVar 5)) (vC (.int 1))]) (op2 fMul (vC (.int 31)) (vVar 5)), op2 fAdd (op2 fAdd (vVar 5) (vVar 1)) (vC (.int 2)), vVar 3]) (op2 fDiv (vVar 3) (vC (.int 2))))
def b_l_row (c_l_cell_at : List SV → R) (c_l_number_k01 : List SV → R) : FS := sSeq (sOwn 4 (vLst [])) (sSeq (sFor (tgN 5) (itA iR1 [calF 3 c_l_number_k01 [calF 2 c_l_cell_at [vVar 0, vVar 1], vVar 1, op2 fAdd (vVar 2) (vC (.int 1))]]) (p_l_row_1 c_l_cell_at c_l_number_k01)) (sRetO 4))
def m_l_row : Nat → List SV → R
  | 0 => fun _ => .stuck
  | k + 1 => runB 6 (b_l_row (m_l_cell_at k) (m_l_number_k01 k))
def b_l_same_tree (c_l_same_tree : List SV → R) : FS := sRet (vTup [op2 fIx (vVar 0) (vC (.int 0)), vLc [1] (tgN 1) (itD iL (op2 fIx (vVar 0) (vC (.int 1)))) (vC (.bool true)) (calF 1 c_l_same_tree [vVar 1])])
def m_l_same_tree : Nat → List SV → R
  | 0 => fun _ => .stuck
  | k + 1 => runB 2 (b_l_same_tree (m_l_same_tree k))
def b_l_same_k01 (c_l_same_tree : List SV → R) : FS := sRet (vLc [1] (tgN 1) (itD iL (vVar 0)) (vC (.bool true)) (calF 1 c_l_same_tree [vVar 1]))
def m_l_same_k01 : Nat → List SV → R
  | 0 => fun _ => .stuck
  | k + 1 => runB 2 (b_l_same_k01 (m_l_same_tree k))
def b_check_keys (c_is_key : List SV → R) : FS := sIf (vOr (vNot (op1 (fun d => rb (isList d)) (vVar 0))) (vOr (op2 fGt (cal1 fLen (vVar 0)) (vC (.int 40))) (vNot (cal1 fAll (vLc [1] (tgN 1) (itD iL (vVar 0)) (vC (.bool true)) (calF 1 c_is_key [vVar 1])))))) (sRaise "BadKey") (sNil)
def m_check_keys : Nat → List SV → R
  | 0 => fun _ => .stuck
  | k + 1 => runB 2 (b_check_keys (m_is_key k))
def b_l_whole : FS := sRet (vAnd (op1 (fun d => rb (isInt d)) (vVar 0)) (vNot (op1 (fun d => rb (isBool d)) (vVar 0))))
def m_l_whole : Nat → List SV → R
  | 0 => fun _ => .stuck
  | k + 1 => runB 1 (b_l_whole)
def b_count_of (c_order_of : List SV → R) : FS := sRet (cal1 fSum (vLc [1] (tgN 1) (itD iL (vVar 0)) (vC (.bool true)) (op2 fShl (vC (.int 1)) (calF 1 c_order_of [vVar 1]))))
def m_count_of : Nat → List SV → R
  | 0 => fun _ => .stuck
  | k + 1 => runB 2 (b_count_of (m_order_of k))
def b_copied (c_copied : List SV → R) : FS := sRet (vTup [op2 fIx (vVar 0) (vC (.int 0)), vLc [1] (tgN 1) (itD iL (op2 fIx (vVar 0) (vC (.int 1)))) (vC (.bool true)) (calF 1 c_copied [vVar 1])])
def m_copied : Nat → List SV → R
  | 0 => fun _ => .stuck
  | k + 1 => runB 2 (b_copied (m_copied k))
def b_linked : FS := sSeq (sIf (op2 fLt (op2 fIx (vVar 1) (vC (.int 0))) (op2 fIx (vVar 0) (vC (.int 0)))) (sPar2 0 1 false false (vVar 1) (vVar 0)) (sNil)) (sRet (vTup [op2 fIx (vVar 0) (vC (.int 0)), op2 fAdd (vLst [vVar 1]) (op2 fIx (vVar 0) (vC (.int 1)))]))
def m_linked : Nat → List SV → R
  | 0 => fun _ => .stuck
  | k + 1 => runB 2 (b_linked)
def p_joinP_1 (c_order_of : List SV → R) (c_linked : List SV → R) : FS := sSeq (sSet 7 (op2 fAdd (vLc [8] (tgN 8) (itD iL (op2 fAdd (vVar 0) (vVar 1))) (op2 fEq (calF 1 c_order_of [vVar 8]) (vVar 6)) (vVar 8)) (vVar 3))) (sSeq (sSet 3 (vLst [])) (sSeq (sIf (op2 fGt (cal1 fLen (vVar 7)) (vC (.int 1))) (sSeq (sSet 3 (vLst [calF 2 c_linked [op2 fIx (vVar 7) (vC (.int 0)), op2 fIx (vVar 7) (vC (.int 1))]])) (sSeq (sSet 7 (vSlL (vVar 7) (vC (.int 2)))) (sAdd 4 (vC (.int 1))))) (sNil)) (sExt 2 (vVar 7))))
def b_joinP (c_order_of : List SV → R) (c_linked : List SV → R) : FS := sSeq (sPar3 2 3 4 true false false (vLst []) (vLst []) (vC (.int 0))) (sSeq (sSet 5 (cal1 fMax1 (op2 fAdd (vLc [8] (tgN 8) (itD iL (op2 fAdd (vVar 0) (vVar 1))) (vC (.bool true)) (calF 1 c_order_of [vVar 8])) (vLst [op1 fNeg (vC (.int 1))])))) (sSeq (sFor (tgN 6) (itA iR1 [op2 fAdd (vVar 5) (vC (.int 2))]) (p_joinP_1 c_order_of c_linked)) (sFrz 2 (sRet (vTup [vVar 2, vVar 4])))))
def m_joinP : Nat → List SV → R
  | 0 => fun _ => .stuck
  | k + 1 => runB 9 (b_joinP (m_order_of k) (m_linked k))
def p_l_ones_1 : FE := op2 fGt (vVar 0) (vC (.int 0))
def p_l_ones_2 : FS := sPar2 0 1 false false (op2 fDiv (vVar 0) (vC (.int 2))) (op2 fAdd (vVar 1) (op2 fMod (vVar 0) (vC (.int 2))))
def b_l_ones : FS := sSeq (sSet 1 (vC (.int 0))) (sSeq (sWhile WF (p_l_ones_1) (p_l_ones_2)) (sRet (vVar 1)))
def m_l_ones : Nat → List SV → R
  | 0 => fun _ => .stuck
  | k + 1 => runB 2 (b_l_ones)
def b_l_is_order (c_l_whole : List SV → R) (c_l_is_order : List SV → R) : FS := sSeq (sIf (vOr (vNot (op1 (fun d => rb (isTup d)) (vVar 0))) (vOr (op2 fNe (cal1 fLen (vVar 0)) (vC (.int 2))) (vOr (vNot (calF 1 c_l_whole [op2 fIx (vVar 0) (vC (.int 0))])) (op2 fLt (op2 fIx (vVar 0) (vC (.int 0))) (vVar 2))))) (sRet (vC (.bool false))) (sNil)) (sSeq (sIf (vOr (vNot (op1 (fun d => rb (isList d)) (op2 fIx (vVar 0) (vC (.int 1))))) (op2 fNe (cal1 fLen (op2 fIx (vVar 0) (vC (.int 1)))) (vVar 1))) (sRet (vC (.bool false))) (sNil)) (sRet (cal1 fAll (vLc [3, 4] (tg2 3 4) (itA iE [op2 fIx (vVar 0) (vC (.int 1))]) (vC (.bool true)) (calF 3 c_l_is_order [vVar 4, op2 fSub (op2 fSub (vVar 1) (vC (.int 1))) (vVar 3), op2 fIx (vVar 0) (vC (.int 0))])))))
def m_l_is_order : Nat → List SV → R
  | 0 => fun _ => .stuck
  | k + 1 => runB 5 (b_l_is_order (m_l_whole k) (m_l_is_order k))
def p_l_all_in_1 (c_l_all_in : List SV → R) : FS := sSet 1 (op2 fAdd (vVar 1) (calF 1 c_l_all_in [vVar 2]))
def b_l_all_in (c_l_all_in : List SV → R) : FS := sSeq (sSet 1 (vLst [op2 fIx (vVar 0) (vC (.int 0))])) (sSeq (sFor (tgN 2) (itD iL (op2 fIx (vVar 0) (vC (.int 1)))) (p_l_all_in_1 c_l_all_in)) (sRet (vVar 1)))
def m_l_all_in : Nat → List SV → R
  | 0 => fun _ => .stuck
  | k + 1 => runB 3 (b_l_all_in (m_l_all_in k))
def p_l_is_pile_1 (c_l_whole : List SV → R) (c_l_is_order : List SV → R) (c_l_all_in : List SV → R) : FS := sSet 3 (op2 fAdd (vVar 3) (calF 1 c_l_all_in [vVar 4]))
def b_l_is_pile (c_l_whole : List SV → R) (c_l_is_order : List SV → R) (c_l_all_in : List SV → R) : FS := sSeq (sIf (vOr (vNot (op1 (fun d => rb (isList d)) (vVar 0))) (vNot (cal1 fAll (vLc [4] (tgN 4) (itD iL (vVar 0)) (vC (.bool true)) (vAnd (op1 (fun d => rb (isTup d)) (vVar 4)) (op2 fEq (cal1 fLen (vVar 4)) (vC (.int 2)))))))) (sRet (vC (.bool false))) (sNil)) (sSeq (sIf (vNot (cal1 fAll (vLc [4] (tgN 4) (itD iL (vVar 0)) (vC (.bool true)) (op1 (fun d => rb (isList d)) (op2 fIx (vVar 4) (vC (.int 1))))))) (sRet (vC (.bool false))) (sNil)) (sSeq (sSet 2 (vLc [4] (tgN 4) (itD iL (vVar 0)) (vC (.bool true)) (cal1 fLen (op2 fIx (vVar 4) (vC (.int 1)))))) (sSeq (sIf (vOr (cal1 fAny (vLc [5, 6] (tg2 5 6) (itA iZ [vVar 2, vSlL (vVar 2) (vC (.int 1))]) (vC (.bool true)) (op2 fGe (vVar 5) (vVar 6)))) (op2 fGt (cal1 fMax1 (op2 fAdd (vVar 2) (vLst [vC (.int 0)]))) (vC (.int 9)))) (sRet (vC (.bool false))) (sNil)) (sSeq (sIf (vNot (cal1 fAll (vLc [4] (tgN 4) (itD iL (vVar 0)) (vC (.bool true)) (vAnd (calF 1 c_l_whole [op2 fIx (vVar 4) (vC (.int 0))]) (calF 3 c_l_is_order [vVar 4, cal1 fLen (op2 fIx (vVar 4) (vC (.int 1))), op2 fIx (vVar 4) (vC (.int 0))]))))) (sRet (vC (.bool false))) (sNil)) (sSeq (sSet 3 (vLst [])) (sSeq (sFor (tgN 4) (itD iL (vVar 0)) (p_l_is_pile_1 c_l_whole c_l_is_order c_l_all_in)) (sRet (op2 fEq (cal1 fSorted (vVar 3)) (cal1 fSorted (vVar 1))))))))))
def m_l_is_pile : Nat → List SV → R
  | 0 => fun _ => .stuck
  | k + 1 => runB 7 (b_l_is_pile (m_l_whole k) (m_l_is_order k) (m_l_all_in k))
def b_check_key (c_is_key : List SV → R) : FS := sIf (vNot (calF 1 c_is_key [vVar 0])) (sRaise "BadKey") (sNil)
def m_check_key : Nat → List SV → R
  | 0 => fun _ => .stuck
  | k + 1 => runB 1 (b_check_key (m_is_key k))
def b_pile_put (c_check_pile : List SV → R) (c_check_key : List SV → R) (c_count_of : List SV → R) (c_copied : List SV → R) (c_joinP : List SV → R) : FS := sSeq (sExpr (calF 1 c_check_pile [vVar 0])) (sSeq (sExpr (calF 1 c_check_key [vVar 1])) (sSeq (sIf (op2 fGt (op2 fAdd (calF 1 c_count_of [vVar 0]) (vC (.int 1))) (vC (.int 40))) (sRaise "TooMany") (sNil)) (sRet (calF 2 c_joinP [vLc [2] (tgN 2) (itD iL (vVar 0)) (vC (.bool true)) (calF 1 c_copied [vVar 2]), vLst [vTup [vVar 1, vLst []]]]))))
def m_pile_put : Nat → List SV → R
  | 0 => fun _ => .stuck
  | k + 1 => runB 3 (b_pile_put (m_check_pile k) (m_check_key k) (m_count_of k) (m_copied k) (m_joinP k))
def p_pile_of_1 (c_check_keys : List SV → R) (c_joinP : List SV → R) : FS := sSeq (sUnp (tg2 1 4) (calF 2 c_joinP [vVar 1, vLst [vTup [vVar 3, vLst []]]])) (sAdd 2 (vVar 4))
def b_pile_of (c_check_keys : List SV → R) (c_joinP : List SV → R) : FS := sSeq (sExpr (calF 1 c_check_keys [vVar 0])) (sSeq (sPar2 1 2 false false (vLst []) (vC (.int 0))) (sSeq (sFor (tgN 3) (itD iL (vVar 0)) (p_pile_of_1 c_check_keys c_joinP)) (sRet (vTup [vVar 1, vVar 2]))))
def m_pile_of : Nat → List SV → R
  | 0 => fun _ => .stuck
  | k + 1 => runB 5 (b_pile_of (m_check_keys k) (m_joinP k))
def b_l_same_k16 (c_l_same_tree : List SV → R) : FS := sRet (vLc [1] (tgN 1) (itD iL (vVar 0)) (vC (.bool true)) (calF 1 c_l_same_tree [vVar 1]))
def m_l_same_k16 : Nat → List SV → R
  | 0 => fun _ => .stuck
  | k + 1 => runB 2 (b_l_same_k16 (m_l_same_tree k))
noncomputable def m_R_pile_put : Nat → List SV → R
  | k + 3 => mRg (cdP (k + 2) (m_check_pile (k + 2)) (m_check_key (k + 2)) (m_count_of (k + 2))) (m_pile_put (k + 3))
  | _ => fun _ => .stuck
noncomputable def m_R_pile_of : Nat → List SV → R
  | k + 3 => mRg (cdO (m_check_keys (k + 2)) (m_joinP (k + 2))) (m_pile_of (k + 3))
  | _ => fun _ => .stuck
noncomputable def p_l_right_k16_1 (c_l_same_k16 : List SV → R) (c_pile_put : List SV → R) (c_l_whole : List SV → R) (c_l_is_pile : List SV → R) (c_l_ones : List SV → R) (c_spoil : Nat) (c_R_pile_put : List SV → R) (c_l_all_in : List SV → R) (c_R_pile_of : List SV → R) (c_pile_of : List SV → R) : FS := sRem 10 (vVar 11)
noncomputable def p_l_right_k16_2 (c_l_same_k16 : List SV → R) (c_pile_put : List SV → R) (c_l_whole : List SV → R) (c_l_is_pile : List SV → R) (c_l_ones : List SV → R) (c_spoil : Nat) (c_R_pile_put : List SV → R) (c_l_all_in : List SV → R) (c_R_pile_of : List SV → R) (c_pile_of : List SV → R) : FS := sSeq (sSet 5 (calF 1 c_l_same_k16 [vVar 1])) (sSeq (sSet 6 (calF 2 c_pile_put [vVar 1, vVar 4])) (sSeq (sIf (vOr (vNot (op1 (fun d => rb (isTup d)) (vVar 6))) (vOr (op2 fNe (cal1 fLen (vVar 6)) (vC (.int 2))) (vOr (vNot (calF 1 c_l_whole [op2 fIx (vVar 6) (vC (.int 1))])) (op2 fNe (vVar 1) (vVar 5))))) (sRet (vC (.bool false))) (sNil)) (sSeq (sIf (vOr (vNot (calF 2 c_l_is_pile [op2 fIx (vVar 6) (vC (.int 0)), vSlH (vVar 0) (op2 fAdd (vVar 3) (vC (.int 1)))])) (op2 fNe (op2 fIx (vVar 6) (vC (.int 1))) (op2 fSub (op2 fAdd (vC (.int 1)) (calF 1 c_l_ones [vVar 3])) (calF 1 c_l_ones [op2 fAdd (vVar 3) (vC (.int 1))])))) (sRet (vC (.bool false))) (sNil)) (sSeq (sSpE c_spoil 0 7 (calF 2 c_R_pile_put [vVar 1, vVar 4])) (sSeq (sIf (op2 fNe (vVar 1) (vVar 5)) (sRet (vC (.bool false))) (sNil)) (sSeq (sPar2 1 2 false false (op2 fIx (vVar 6) (vC (.int 0))) (op2 fAdd (vVar 2) (op2 fIx (vVar 6) (vC (.int 1))))) (sIf (op2 fEq (op2 fMod (vVar 3) (vC (.int 6))) (vC (.int 5))) (sSeq (sOwn 8 (calF 1 c_l_same_k16 [vVar 1])) (sSeq (sExpr (vBor 8 (calF 2 c_R_pile_put [vVar 8, vVar 4]))) (sSeq (sPopCal 9 8 0 c_l_all_in) (sSeq (sOwn 10 (cal1 fSorted (vSlH (vVar 0) (op2 fAdd (vVar 3) (vC (.int 1)))))) (sSeq (sFor (tgN 11) (itD iL (vVar 9)) (p_l_right_k16_1 c_l_same_k16 c_pile_put c_l_whole c_l_is_pile c_l_ones c_spoil c_R_pile_put c_l_all_in c_R_pile_of c_pile_of)) (sFrz 8 (sFrz 10 (sIf (vNot (calF 2 c_l_is_pile [op2 fIx (calF 2 c_pile_put [vVar 8, vVar 4]) (vC (.int 0)), op2 fAdd (vVar 10) (vLst [vVar 4])])) (sRet (vC (.bool false))) (sNil))))))))) (sNil))))))))
noncomputable def b_l_right_k16 (c_l_same_k16 : List SV → R) (c_pile_put : List SV → R) (c_l_whole : List SV → R) (c_l_is_pile : List SV → R) (c_l_ones : List SV → R) (c_spoil : Nat) (c_R_pile_put : List SV → R) (c_l_all_in : List SV → R) (c_R_pile_of : List SV → R) (c_pile_of : List SV → R) : FS := sSeq (sPar2 1 2 false false (vLst []) (vC (.int 0))) (sSeq (sFor (tg2 3 4) (itA iE [vVar 0]) (p_l_right_k16_2 c_l_same_k16 c_pile_put c_l_whole c_l_is_pile c_l_ones c_spoil c_R_pile_put c_l_all_in c_R_pile_of c_pile_of)) (sSeq (sSet 12 (cal1 fList (vVar 0))) (sSeq (sRg 6 (calF 1 c_R_pile_of [vVar 12])) (sSeq (sIf (vOr (vNot (vBor 6 (op1 (fun d => rb (isTup d)) (vVar 6)))) (vOr (op2 fNe (vBor 6 (cal1 fLen (vVar 6))) (vC (.int 2))) (vOr (vNot (vBor 6 (calF 1 c_l_whole [op2 fIx (vVar 6) (vC (.int 1))]))) (op2 fNe (vVar 12) (vVar 0))))) (sRet (vC (.bool false))) (sNil)) (sSeq (sIf (vOr (vNot (vBor 6 (calF 2 c_l_is_pile [op2 fIx (vVar 6) (vC (.int 0)), vVar 0]))) (vOr (vBor 6 (op2 fNe (op2 fIx (vVar 6) (vC (.int 1))) (vVar 2))) (op2 fNe (vVar 2) (op2 fSub (cal1 fLen (vVar 0)) (calF 1 c_l_ones [cal1 fLen (vVar 0)]))))) (sRet (vC (.bool false))) (sNil)) (sSeq (sAppT 6 0 0) (sRet (calF 2 c_l_is_pile [op2 fIx (calF 1 c_pile_of [vVar 12]) (vC (.int 0)), vVar 0]))))))))
noncomputable def m_l_right_k16 : Nat → List SV → R
  | 0 => fun _ => .stuck
  | k + 1 => runB 13 (b_l_right_k16 (m_l_same_k16 k) (m_pile_put k) (m_l_whole k) (m_l_is_pile k) (m_l_ones k) k (m_R_pile_put k) (m_l_all_in k) (m_R_pile_of k) (m_pile_of k))
noncomputable def p_law_k16_1 (c_l_row : List SV → R) (c_l_right_k16 : List SV → R) (c_pile_of : List SV → R) (c_pile_put : List SV → R) : FS := sIf (vNot (calF 1 c_l_right_k16 [vVar 3])) (sRet (vC (.bool false))) (sNil)
noncomputable def p_law_k16_2 (c_l_row : List SV → R) (c_l_right_k16 : List SV → R) (c_pile_of : List SV → R) (c_pile_put : List SV → R) : FS := sSeq (sSet 2 (calF 4 c_l_row [vVar 0, vVar 1, vC (.int 40), op2 fIx (vTup [vC (.int 4), vC (.int 90), op2 fPow (vC (.int 10)) (vC (.int 20))]) (op2 fMod (op2 fDiv (vVar 1) (vC (.int 4))) (vC (.int 3)))])) (sFor (tgN 3) (itD iT (vTup [vVar 2, cal1 fSorted (vVar 2), op1 fRev (cal1 fSorted (vVar 2))])) (p_law_k16_1 c_l_row c_l_right_k16 c_pile_of c_pile_put))
noncomputable def b_law_k16 (c_l_row : List SV → R) (c_l_right_k16 : List SV → R) (c_pile_of : List SV → R) (c_pile_put : List SV → R) : FS := sSeq (sFor (tgN 1) (itA iR3 [vC (.int 0), cal2 fMax2 (vC (.int 1)) (cal2 fMin2 (vC (.int 8)) (cal1 fLen (vVar 0))), vC (.int 4)]) (p_law_k16_2 c_l_row c_l_right_k16 c_pile_of c_pile_put)) (sRet (vAnd (op2 fEq (calF 1 c_pile_of [vLst []]) (vTup [vLst [], vC (.int 0)])) (vAnd (op2 fEq (calF 1 c_pile_of [vLst [vC (.int 3), vC (.int 1)]]) (vTup [vLst [vTup [vC (.int 1), vLst [vTup [vC (.int 3), vLst []]]]], vC (.int 1)])) (op2 fEq (calF 2 c_pile_put [vLst [], vC (.int 7)]) (vTup [vLst [vTup [vC (.int 7), vLst []]], vC (.int 0)])))))
noncomputable def m_law_k16 : Nat → List SV → R
  | 0 => fun _ => .stuck
  | k + 1 => runB 4 (b_law_k16 (m_l_row k) (m_l_right_k16 k) (m_pile_of k) (m_pile_put k))
inductive Tr where
  | lf
  | nd (l : Tr) (k : Int) (r : Tr)
  deriving DecidableEq
def Tr.d : Tr → D
  | .lf => .tuple []
  | .nd l k r => .tuple [l.d, .int k, r.d]
def Tr.rank : Tr → Int
  | .lf => 0
  | .nd l _ r => 1 + min l.rank r.rank
def Tr.row : Tr → List Int
  | .lf => []
  | .nd l k r => l.row ++ [k] ++ r.row
def Tr.rw : Tr → Int
  | .lf => 0
  | .nd _ _ r => 1 + r.rw
def geTop (x : Int) : Tr → Bool
  | .lf => true
  | .nd _ k _ => !decide (k < x)
def Tr.heap : Tr → Bool
  | .lf => true
  | .nd l k r => geTop k l && geTop k r && l.heap && r.heap
def Tr.leans : Tr → Bool
  | .lf => true
  | .nd l _ r => decide (r.rank ≤ l.rank) && l.leans && r.leans
@[simp] theorem fEq_nil (x : D) : fEq x (.tuple []) = rb (PyData.eqv x (.tuple [])) := if_pos (by simp only [PyData.depth, PyData.depthAll]; omega)
@[simp] theorem fNe_nil (x : D) : fNe x (.tuple []) = rb (!PyData.eqv x (.tuple [])) := if_pos (by simp only [PyData.depth, PyData.depthAll]; omega)
@[simp] theorem fEq_nilL (x : D) : fEq x (.list []) = rb (PyData.eqv x (.list [])) := if_pos (by simp only [PyData.depth, PyData.depthAll]; omega)
@[simp] theorem fNe_nilL (x : D) : fNe x (.list []) = rb (!PyData.eqv x (.list [])) := if_pos (by simp only [PyData.depth, PyData.depthAll]; omega)
@[simp] theorem fEq_int (i j : Int) : fEq (.int i) (.int j) = rb (i == j) := by simp [fEq, PyData.depth, PyData.eqv]
@[simp] theorem fNe_int (i j : Int) : fNe (.int i) (.int j) = rb (!(i == j)) := by simp [fNe, PyData.depth, PyData.eqv]
@[simp] theorem eqv_tnil : PyData.eqv (.tuple []) (.tuple []) = true := by simp only [PyData.eqv, PyData.eqvAll]
@[simp] theorem eqv_tcons (x : D) (xs : List D) : PyData.eqv (.tuple (x :: xs)) (.tuple []) = false := by simp only [PyData.eqv, PyData.eqvAll]
@[simp] theorem eqv_lnil : PyData.eqv (.list []) (.list []) = true := by simp only [PyData.eqv, PyData.eqvAll]
@[simp] theorem eqv_lcons (x : D) (xs : List D) : PyData.eqv (.list (x :: xs)) (.list []) = false := by simp only [PyData.eqv, PyData.eqvAll]
@[simp] theorem eqv_lE (xs : List D) : PyData.eqv (.list xs) (.list []) = xs.isEmpty := eqv_nil xs
@[simp] theorem eqv_tE (xs : List D) : PyData.eqv (.tuple xs) (.tuple []) = xs.isEmpty := by cases xs <;> simp
@[simp] theorem eqv_int (i j : Int) : PyData.eqv (.int i) (.int j) = (i == j) := by simp only [PyData.eqv]
theorem sWhile_go {n : Nat} {c : FE} {b : FS} {env e : VEnv} (hc : c env = rb true) (hb : b env = .nx e) : sWhile (n + 1) c b env = sWhile n c b e := by simp only [sWhile, hc, hb]
theorem sWhile_end {n : Nat} {c : FE} {b : FS} {env : VEnv} (hc : c env = rb false) : sWhile (n + 1) c b env = .nx env := by simp only [sWhile, hc]
theorem forL_go {t : Tg} {b : FS} {d : D} {r : List D} {env env' e : VEnv} (ht : t d env = some env') (hb : b env' = .nx e) : forL t b (d :: r) env = forL t b r e := by simp only [forL, ht, hb]
@[simp] theorem forL_nil {t : Tg} {b : FS} {env : VEnv} : forL t b [] env = .nx env := rfl
@[simp] theorem atI0 (x : D) (xs : List D) : atI (x :: xs) 0 = some x := atI_nat (j := 0) rfl
@[simp] theorem atI1 (x y : D) (xs : List D) : atI (x :: y :: xs) 1 = some y := atI_nat (j := 1) rfl
@[simp] theorem atI2 (x y z : D) (xs : List D) : atI (x :: y :: z :: xs) 2 = some z := atI_nat (j := 2) rfl
theorem k_succ {n k : Nat} (h : n < k) : ∃ j, k = j + 1 := ⟨k - 1, by omega⟩
theorem ite_min (a b : Int) : (if b < a then b else a) = min a b := by omega
@[simp] theorem ite_max (a b : Int) : (if b > a then b else a) = max a b := by omega
@[simp] theorem nl_d : ∀ t : Tr, noList t.d = true
  | .lf => by simp only [Tr.d, noList, noLists]
  | .nd l k r => by simp only [Tr.d, noList, noLists, nl_d l, nl_d r, Bool.and_self]
@[simp] theorem nl_ints : ∀ ns : List Int, noLists (ns.map PyData.int) = true
  | [] => by simp only [List.map_nil, noLists]
  | _ :: r => by simp only [List.map_cons, noLists, noList, nl_ints r, Bool.and_self]
theorem e_is_key (k : Nat) (i : Int) : m_is_key (k + 1) [.sh (.int i)] = rb true := by simp [m_is_key, b_is_key]
theorem e_l_whole (k : Nat) (i : Int) : m_l_whole (k + 1) [.sh (.int i)] = rb true := by simp [m_l_whole, b_l_whole]
abbrev bits (x : Int) : Nat := Builtin.Int.intBits x
theorem mulOk_bits {a b : Int} {m n : Nat} (ha : bits a ≤ m) (hb : bits b ≤ n) (h : m + n ≤ 134217728) : mulOk a b = true := mulOk_iff.mpr (IntMulOk.of_le ha hb h)
theorem mulOk_left {a b : Int} (h1 : -(2 ^ 64) < a) (h2 : a < 2 ^ 64) : mulOk a b = true := mulOk_iff.mpr (.of_left (intBits_le_64 h1 h2))
theorem mulOk_right {a b : Int} (h1 : -(2 ^ 64) < b) (h2 : b < 2 ^ 64) : mulOk a b = true := mulOk_iff.mpr (.of_right (intBits_le_64 h1 h2))
@[simp] theorem atI_lit (xs : List D) (n : Nat) : atI xs (no_index (@OfNat.ofNat Int n _)) = xs[n]? := by
  show atI xs ((n : Nat) : Int) = xs[n]?
  cases h : xs[n]? with
  | some v => exact atI_nat h
  | none =>
    have := List.getElem?_eq_none_iff.mp h
    unfold atI ixN
    rw [if_pos (by omega), if_neg (by omega)]
    rfl
theorem atI_int {xs : List D} {i : Int} (h0 : 0 ≤ i) : atI xs i = xs[i.toNat]? := by
  obtain ⟨n, rfl⟩ := Int.eq_ofNat_of_zero_le h0
  exact atI_lit xs n
theorem e_l_draw (k : Nat) {cell kk most : Int} (h1 : 1 ≤ kk) (h2 : kk ≤ 9) (hm : 0 < most) : ∃ n, 0 ≤ n ∧ n < most ∧ m_l_draw (k + 1) [.sh (.int cell), .sh (.int kk), .sh (.int most)] = ri n := by
  have a1 : mulOk cell 48271 = true := mulOk_right (by decide) (by decide)
  have a2 : mulOk kk 69621 = true := mulOk_right (by decide) (by decide)
  have hk : kk = 1 ∨ kk = 2 ∨ kk = 3 ∨ kk = 4 ∨ kk = 5 ∨ kk = 6 ∨ kk = 7 ∨ kk = 8 ∨ kk = 9 := by omega
  rcases hk with rfl | rfl | rfl | rfl | rfl | rfl | rfl | rfl | rfl <;>
    exact ⟨_, Int.emod_nonneg _ (by omega), Int.emod_lt_of_pos _ hm, by simp [m_l_draw, b_l_draw, a1, a2, hm]; rfl⟩
theorem e_l_number (k : Nat) {cell kk lim : Int} (hb : bits cell ≤ 2000000) (h1 : 0 ≤ kk) (h2 : kk ≤ 1000) (hm : 0 < lim) : ∃ n, 0 ≤ n ∧ n < lim ∧ m_l_number_k01 (k + 2) [.sh (.int cell), .sh (.int kk), .sh (.int lim)] = ri n := by
  have a1 : mulOk 977 kk = true := mulOk_left (by decide) (by decide)
  have a2 : mulOk 31 kk = true := mulOk_left (by decide) (by decide)
  have b1 : bits (cell + 977 * kk) ≤ 2000001 := PySem.intBits_add_le (n := 64) hb (intBits_le_64 (by omega) (by omega))
  have b2 : bits (cell + 31 * kk + 5) ≤ 2000002 := PySem.intBits_add_le (n := 64) (PySem.intBits_add_le (n := 64) hb (intBits_le_64 (by omega) (by omega))) (intBits_le_64 (by omega) (by omega))
  have a3 : mulOk (cell + 977 * kk) (cell + 31 * kk + 5) = true := mulOk_bits b1 b2 (by decide)
  by_cases c : (1000000000000000000 : Int) ≤ cell
  · have hk : kk % 5 = 0 ∨ kk % 5 = 1 ∨ kk % 5 = 2 ∨ kk % 5 = 3 ∨ kk % 5 = 4 := by omega
    rcases hk with e | e | e | e | e <;>
      exact ⟨_, Int.emod_nonneg _ (by omega), Int.emod_lt_of_pos _ hm, by simp [m_l_number_k01, b_l_number_k01, c, e, hm]; rfl⟩
  · obtain ⟨n, n1, n2, en⟩ := e_l_draw k (cell := (cell + 977 * kk) * (cell + 31 * kk + 5)) (kk := kk % 9 + 1) (most := 999983) (by omega) (by omega) (by decide)
    exact ⟨_, Int.emod_nonneg _ (by omega), Int.emod_lt_of_pos _ hm, by simp [m_l_number_k01, b_l_number_k01, c, a1, a2, a3, en, hm]; rfl⟩
def cell (ns : List Int) (i : Int) : Int := ns.getD i.toNat 0
theorem e_l_cell_at (k : Nat) (ns : List Int) {i : Int} (h : 0 ≤ i) : m_l_cell_at (k + 1) [.sh (.list (ns.map .int)), .sh (.int i)] = ri (cell ns i) := by
  by_cases c : i < ns.length
  · have hi : i.toNat < ns.length := by omega
    simp [m_l_cell_at, b_l_cell_at, c, atI_int h, cell, hi]
  · have hi : ns.length ≤ i.toNat := by omega
    simp [m_l_cell_at, b_l_cell_at, c, cell, hi]
theorem cell_bits {ns : List Int} (hb : ∀ z ∈ ns, bits z ≤ 1048576) (i : Int) : bits (cell ns i) ≤ 1048576 := by
  unfold cell
  rw [List.getD_eq_getElem?_getD]
  cases c : ns[i.toNat]? with
  | some v => exact hb _ (List.mem_of_getElem? c)
  | none => exact (by decide : bits 0 ≤ 1048576)
theorem rngD_cons (lo : Int) (n : Nat) : rngD lo 1 (n + 1) = .int lo :: rngD (lo + 1) 1 n := by
  unfold rngD
  rw [List.range_succ_eq_map, List.map_cons, List.map_map]
  congr 1
  · simp
  · apply List.map_congr_left
    intro i _
    simp
    omega
theorem row_go (k : Nat) {ns : List Int} (hb : ∀ z ∈ ns, bits z ≤ 1048576) {bi mo wi : Int} (h1 : 0 ≤ bi) (h2 : bi ≤ 100) (hw : 0 < wi) : ∀ (n : Nat) (lo : Int) (acc : List Int) (z : Option SV), 0 ≤ lo → lo + n ≤ 100 → acc.length + n ≤ 1000 →
    ∃ (r : List Int) (z' : Option SV), r.length = n ∧ (∀ x ∈ r, -(wi / 2) ≤ x ∧ x < wi) ∧
      forL (tgN 5) (p_l_row_1 (m_l_cell_at (k + 2)) (m_l_number_k01 (k + 2)))
        (rngD lo 1 n) [some (.sh (.list (ns.map .int))), some (.sh (.int bi)), some (.sh (.int mo)), some (.sh (.int wi)), some (.ow (acc.map .int)), z]
        = .nx [some (.sh (.list (ns.map .int))), some (.sh (.int bi)), some (.sh (.int mo)), some (.sh (.int wi)), some (.ow ((acc ++ r).map .int)), z']
  | 0, lo, acc, z, _, _, _ => ⟨[], z, rfl, by simp, by simp [rngD, forL]⟩
  | n + 1, lo, acc, z, hl, hn, ha => by
    have c1 := e_l_cell_at (k + 1) ns (i := bi + lo + 1) (by omega)
    have m1 : mulOk 31 lo = true := mulOk_left (by decide) (by decide)
    have cb := cell_bits hb (bi + lo + 1)
    obtain ⟨x, x1, x2, ex⟩ := e_l_number k (cell := cell ns (bi + lo + 1) + 31 * lo) (kk := lo + bi + 2) (lim := wi) (Nat.le_trans (PySem.intBits_add_le (n := 64) cb (intBits_le_64 (by omega) (by omega))) (by decide)) (by omega) (by omega) hw
    obtain ⟨r, z', r1, r2, er⟩ := row_go k hb (mo := mo) h1 h2 hw n (lo + 1) (acc ++ [x - wi / 2]) (some (.sh (.int lo))) (by omega) (by omega) (by simp; omega)
    have al : acc.length ≤ 1000000 := by omega
    refine ⟨(x - wi / 2) :: r, z', by simp [r1], ?_, ?_⟩
    · intro y hy
      rcases List.mem_cons.mp hy with rfl | hy
      · constructor <;> omega
      · exact r2 y hy
    · rw [rngD_cons, forL]
      simp only [List.map_append, List.map_cons, List.map_nil] at er
      simp [p_l_row_1, c1, m1, ex, al, er]
      simp [p_l_row_1] at er
      exact er
theorem e_l_row (k : Nat) {ns : List Int} (hb : ∀ z ∈ ns, bits z ≤ 1048576) {bi mo wi : Int} (h1 : 0 ≤ bi) (h2 : bi ≤ 40) (hm : 0 ≤ mo) (hm2 : mo ≤ 40) (hw : 0 < wi) :
    ∃ r : List Int, (r.length : Int) ≤ mo ∧ (∀ x ∈ r, -(wi / 2) ≤ x ∧ x < wi) ∧ m_l_row (k + 3) [.sh (.list (ns.map .int)), .sh (.int bi), .sh (.int mo), .sh (.int wi)] = .val (.ow (r.map .int)) := by
  have c1 := e_l_cell_at (k + 1) ns (i := bi) h1
  obtain ⟨n, n1, n2, en⟩ := e_l_number k (cell := cell ns bi) (kk := bi) (lim := mo + 1) (Nat.le_trans (cell_bits hb bi) (by decide)) h1 (by omega) (by omega)
  obtain ⟨r, z', r1, r2, er⟩ := row_go k hb (mo := mo) h1 (by omega) hw n.toNat 0 [] none (by omega) (by omega) (by simp; omega)
  refine ⟨r, by omega, r2, ?_⟩
  have hn : -1000000 ≤ n ∧ n ≤ 1000000 := by omega
  simp only [List.map_nil, List.nil_append] at er
  simp [m_l_row, b_l_row, c1, en, hn, er]
theorem lcGo_map {α : Type} {t : Tg} {c e : FE} {env : VEnv} (h g : α → D) : ∀ (xs : List α), (∀ x ∈ xs, ∃ env', t (h x) env = some env' ∧ c env' = rb true ∧ (e env').data = some (g x)) → lcGo t c e env (xs.map h) = some (xs.map g)
  | [], _ => rfl
  | x :: r, H => by
    obtain ⟨env', h1, h2, h3⟩ := H x List.mem_cons_self
    have ih := lcGo_map (t := t) (c := c) (e := e) (env := env) h g r fun y hy => H y (List.mem_cons_of_mem _ hy)
    simp only [List.map_cons, lcGo, h1, h2, h3, ih, Option.map_some]
theorem lcGo_filter {α : Type} {t : Tg} {c e : FE} {env : VEnv} (h g : α → D) (p : α → Bool) : ∀ (xs : List α), (∀ x ∈ xs, ∃ env', t (h x) env = some env' ∧ c env' = rb (p x) ∧ (p x = true → (e env').data = some (g x))) → lcGo t c e env (xs.map h) = some ((xs.filter p).map g)
  | [], _ => rfl
  | x :: r, H => by
    obtain ⟨env', h1, h2, h3⟩ := H x List.mem_cons_self
    have ih := lcGo_filter (t := t) (c := c) (e := e) (env := env) h g p r fun y hy => H y (List.mem_cons_of_mem _ hy)
    cases q : p x with
    | true =>
      rw [q] at h2
      simp only [List.map_cons, lcGo, h1, h2, h3 q, ih, Option.map_some, List.filter_cons, q, if_pos]
    | false =>
      rw [q] at h2
      simp only [List.map_cons, lcGo, h1, h2, ih, List.filter_cons, q, Bool.false_eq_true, if_false]
theorem cutD_lo (xs : List D) (n : Nat) : cutD xs (some (n : Int)) none = xs.drop n := by
  unfold cutD
  rw [HT.sIx_nat, HT.sIx_none]
  by_cases h : n ≤ xs.length
  · rw [Nat.min_eq_left h]
    exact List.take_of_length_le (by rw [List.length_drop]; exact Nat.le_refl _)
  · rw [Nat.min_eq_right (by omega), List.drop_length, List.drop_eq_nil_of_le (by omega)]; simp
theorem cutD_hi (xs : List D) (n : Nat) : cutD xs none (some (n : Int)) = xs.take n := by
  unfold cutD
  rw [HT.sIx_nat, HT.sIx_none, List.drop_zero, Nat.sub_zero]
  by_cases h : n ≤ xs.length
  · rw [Nat.min_eq_left h]
  · rw [Nat.min_eq_right (by omega), List.take_of_length_le (Nat.le_refl _), List.take_of_length_le (by omega)]
@[simp] theorem cutD_loL (xs : List D) (n : Nat) : cutD xs (some (no_index (@OfNat.ofNat Int n _))) none = xs.drop n := cutD_lo xs n
@[simp] theorem cutD_hiL (xs : List D) (n : Nat) : cutD xs none (some (no_index (@OfNat.ofNat Int n _))) = xs.take n := cutD_hi xs n
theorem eqvAll_ints : ∀ a b : List Int, PyData.eqvAll (a.map .int) (b.map .int) = (a == b)
  | [], [] => rfl
  | [], _ :: _ => rfl
  | _ :: _, [] => rfl
  | x :: a, y :: b => by
    simp only [List.map_cons, PyData.eqvAll, eqv_int, eqvAll_ints a b]
    rfl
theorem depth_ints : ∀ a : List Int, PyData.depthAll (a.map .int) = 0
  | [] => rfl
  | _ :: a => by simp only [List.map_cons, PyData.depthAll, PyData.depth, depth_ints a]; rfl
@[simp] theorem fEq_ints (a b : List Int) : fEq (.list (a.map .int)) (.list (b.map .int)) = rb (a == b) := by
  unfold fEq
  rw [if_pos (by simp only [PyData.depth, depth_ints]; omega)]
  simp only [PyData.eqv, eqvAll_ints]
@[simp] theorem fNe_ints (a b : List Int) : fNe (.list (a.map .int)) (.list (b.map .int)) = rb (!(a == b)) := by
  unfold fNe
  rw [if_pos (by simp only [PyData.depth, depth_ints]; omega)]
  simp only [PyData.eqv, eqvAll_ints]
theorem lc_ints {t : Tg} {c e : FE} {env : VEnv} (p : Int → Bool) (xs : List Int) (H : ∀ x ∈ xs, ∃ env', t (.int x) env = some env' ∧ c env' = rb true ∧ (e env').data = some (.bool (p x))) : lcGo t c e env (xs.map .int) = some ((xs.map p).map .bool) := by
  rw [lcGo_map (t := t) (c := c) (e := e) (env := env) PyData.int (fun x => .bool (p x)) xs H, List.map_map]; rfl
theorem e_check_keys (r : List Int) (k : Nat) (h : r.length ≤ 40) : m_check_keys (k + 2) [.sh (.list (r.map .int))] = .val (.sh .none) := by
  have e := lc_ints (t := tgN 1) (c := vC (.bool true)) (e := calF 1 (m_is_key (k + 1)) [vVar 1]) (env := [some (.sh (.list (r.map .int))), none]) (fun _ => true) r fun x _ => ⟨_, rfl, rfl, by simp [e_is_key]⟩
  have h1 : r.length ≤ 1000000 := by omega
  have h2 : ¬ (40 : Int) < r.length := by omega
  have h3 : (r.all fun _ => true) = true := by simp only [List.all_eq_true, implies_true]
  simp [m_check_keys, b_check_keys, e, h1, h2, blsOf_map, -List.map_map, h3]
def one (x : Int) : Tr := .nd .lf x .lf
theorem forL_inv {t : Tg} {b : FS} (I : VEnv → Prop) : ∀ {xs : List D} (H : ∀ d ∈ xs, ∀ env, I env → ∃ env' e, t d env = some env' ∧ b env' = .nx e ∧ I e) {env : VEnv}, I env → ∃ e, forL t b xs env = .nx e ∧ I e
  | [], _, env, h => ⟨env, rfl, h⟩
  | x :: r, H, env, h => by
    obtain ⟨e1, e2, h1, h2, h3⟩ := H x List.mem_cons_self env h
    rw [forL_go h1 h2]
    exact forL_inv I (fun d hd => H d (List.mem_cons_of_mem _ hd)) h3
@[simp] theorem intsOf_mapS (ns : List Int) : intsOf (ns.map PyData.int) = some ns := intsOf_map ns
@[simp] theorem intsOf_app (a b : List Int) : intsOf (a.map PyData.int ++ b.map PyData.int) = some (a ++ b) := by rw [← List.map_append, intsOf_map]
theorem rngD_mem {lo c : Int} {n : Nat} {d : D} (h : d ∈ rngD lo c n) : ∃ i, i < n ∧ d = .int (lo + (i : Int) * c) := by
  obtain ⟨i, h1, h2⟩ := List.mem_map.mp h
  exact ⟨i, List.mem_range.mp h1, h2.symm⟩
theorem idxOf_mem : ∀ {ns : List Int} {y : Int}, y ∈ ns → ∃ j, idxOf ns y = some j
  | [], _, h => absurd h List.not_mem_nil
  | x :: r, y, h => by
    unfold idxOf
    by_cases c : x = y
    · exact ⟨0, if_pos c⟩
    · obtain ⟨j, hj⟩ := idxOf_mem (ns := r) ((List.mem_cons.mp h).resolve_left fun e => c e.symm)
      exact ⟨j + 1, by rw [if_neg c, hj]; rfl⟩
@[simp] theorem fEq_bls (a b : List Bool) : fEq (.list (a.map .bool)) (.list (b.map .bool)) = rb (a == b) := by
  have d : ∀ a : List Bool, PyData.depthAll (a.map .bool) = 0 := fun a => by
    induction a with
    | nil => rfl
    | cons x r ih => simp only [List.map_cons, PyData.depthAll, PyData.depth, ih]; rfl
  have q : ∀ a b : List Bool, PyData.eqvAll (a.map .bool) (b.map .bool) = (a == b) := fun a => by
    induction a with
    | nil => intro b; cases b <;> rfl
    | cons x r ih =>
      intro b
      cases b with
      | nil => rfl
      | cons y s =>
        simp only [List.map_cons, PyData.eqvAll, ih]
        cases x <;> cases y <;> simp [PyData.eqv]
  unfold fEq
  rw [if_pos (by simp only [PyData.depth, d]; omega)]
  simp only [PyData.eqv, q]
theorem E_l_row (k : Nat) {ns : List Int} (hb : ∀ z ∈ ns, bits z ≤ 1048576) (bi mo wi : Int) (hk : 3 ≤ k) (h1 : 0 ≤ bi) (h2 : bi ≤ 40) (hm : 0 ≤ mo) (hm2 : mo ≤ 40) (hw : 0 < wi) :
    ∃ r : List Int, (r.length : Int) ≤ mo ∧ (∀ x ∈ r, -(wi / 2) ≤ x ∧ x < wi) ∧ m_l_row k [.sh (.list (ns.map .int)), .sh (.int bi), .sh (.int mo), .sh (.int wi)] = .val (.ow (r.map .int)) := by
  obtain ⟨j, rfl⟩ : ∃ j, k = j + 3 := ⟨k - 3, by omega⟩
  exact e_l_row j hb h1 h2 hm hm2 hw
theorem iR3_4 (m : Nat) (hm : m = 8 ∨ m = 12) (l : Nat) : ∃ n, n ≤ 3 ∧ (m = 8 → n ≤ 2) ∧ iR3 [.sh (.int 0), .sh (.int (max 1 (min (m : Int) l))), .sh (.int 4)] = .val (rngD 0 4 n) := by
  have : ∃ j : Nat, 1 ≤ j ∧ j ≤ m ∧ max 1 (min (m : Int) l) = j := ⟨max 1 (min m l), by omega, by omega, by omega⟩
  obtain ⟨j, h1, h2, e⟩ := this
  rw [e]
  have : j = 1 ∨ j = 2 ∨ j = 3 ∨ j = 4 ∨ j = 5 ∨ j = 6 ∨ j = 7 ∨ j = 8 ∨ j = 9 ∨ j = 10 ∨ j = 11 ∨ j = 12 := by omega
  rcases this with rfl | rfl | rfl | rfl | rfl | rfl | rfl | rfl | rfl | rfl | rfl | rfl <;> simp only [iR3] <;> rw [if_pos ⟨by decide, by decide, by decide⟩] <;> exact ⟨_, by decide, by first | (intro _; decide) | (intro z; omega), rfl⟩
theorem E_l_whole (k : Nat) (i : Int) (h : 1 ≤ k) : m_l_whole k [.sh (.int i)] = rb true := by
  obtain ⟨k, rfl⟩ := k_succ (n := 0) (k := k) (by omega)
  exact e_l_whole k i
@[simp] theorem fNe_str (a b : Str) : fNe (.str a) (.str b) = rb (!(a == b)) := by simp [fNe, PyData.depth, PyData.eqv]
@[simp] theorem fEq_str (a b : Str) : fEq (.str a) (.str b) = rb (a == b) := by simp [fEq, PyData.depth, PyData.eqv]
inductive Bn where
  | leaf (k : Int)
  | link (o t : Bn)
  deriving DecidableEq
def Bn.key : Bn → Int
  | .leaf k => k
  | .link _ t => t.key
def Bn.cs : Bn → List D
  | .leaf _ => []
  | .link o t => .tuple [.int o.key, .list o.cs] :: t.cs
def Bn.d (t : Bn) : D := .tuple [.int t.key, .list t.cs]
def Bn.ks : Bn → List Int
  | .leaf _ => []
  | .link o t => (o.key :: o.ks) ++ t.ks
def Bn.keys (t : Bn) : List Int := t.key :: t.ks
def Bn.ord : Bn → Nat
  | .leaf _ => 0
  | .link _ t => t.ord + 1
def Bn.ok : Bn → Prop
  | .leaf _ => True
  | .link o t => o.ord = t.ord ∧ t.key ≤ o.key ∧ o.ok ∧ t.ok
theorem Bn.cs_len : ∀ t : Bn, t.cs.length = t.ord
  | .leaf _ => rfl
  | .link _ t => by simp only [Bn.cs, List.length_cons, t.cs_len, Bn.ord]
theorem Bn.ks_len : ∀ t : Bn, t.ok → t.ks.length + 1 = 2 ^ t.ord
  | .leaf _, _ => rfl
  | .link o t, h => by
    obtain ⟨h1, _, h3, h4⟩ := h
    have a := o.ks_len h3
    have b := t.ks_len h4
    rw [h1] at a
    simp only [Bn.ks, List.length_append, List.length_cons, Bn.ord, Nat.pow_succ]; omega
theorem Bn.keys_len (t : Bn) (h : t.ok) : t.keys.length = 2 ^ t.ord := by rw [← t.ks_len h]; rfl
theorem tree_loop (k : Nat) (K : Int) (z : Option SV) (L : List D) (n : Nat) (IH : ∀ o : Bn, o.ok → o.ord < n → m_is_tree k [.sh o.d, .sh (.int o.ord)] = rb true) : ∀ (t : Bn) (at' : Nat) (b2 b3 : Option SV), t.ok → t.key = K → at' + t.ord = n →
    ∃ c2 c3, forL (tg2 2 3) (p_is_tree_1 (m_is_key k) (m_is_tree k)) (enumD at' t.cs) [some (.sh (.tuple [.int K, .list L])), some (.sh (.int n)), b2, b3] = .nx [some (.sh (.tuple [.int K, .list L])), some (.sh (.int n)), c2, c3]
  | .leaf x, at', b2, b3, _, _, _ => ⟨b2, b3, rfl⟩
  | .link o t, at', b2, b3, h, hk, hn => by
    obtain ⟨h1, h2, h3, h4⟩ := h
    simp only [Bn.ord] at hn
    have e := IH o h3 (by omega)
    have i1 : (n : Int) - 1 - at' = o.ord := by omega
    have i2 : ¬ o.key < K := by simp only [Bn.key] at hk; omega
    obtain ⟨c2, c3, ih⟩ := tree_loop k K z L n IH t (at' + 1) (some (.sh (.int at'))) (some (.sh o.d)) h4 hk (by omega)
    refine ⟨c2, c3, ?_⟩
    rw [Bn.cs, enumD]
    rw [forL_go (env' := [some (.sh (.tuple [.int K, .list L])), some (.sh (.int n)), some (.sh (.int at')), some (.sh o.d)]) (e := [some (.sh (.tuple [.int K, .list L])), some (.sh (.int n)), some (.sh (.int at')), some (.sh o.d)]) (by simp [Bn.d]) (by
      simp only [Bn.d] at e
      simp [p_is_tree_1, Bn.d, i1, i2, e])]
    exact ih
theorem e_is_tree : ∀ (k : Nat) (t : Bn), t.ok → t.ord + 1 < k → m_is_tree k [.sh t.d, .sh (.int t.ord)] = rb true
  | 0, t, _, h => absurd h (by omega)
  | k + 1, t, ht, h => by
    obtain ⟨c2, c3, L⟩ := tree_loop k t.key none t.cs t.ord (fun o h1 h2 => e_is_tree k o h1 (by omega)) t 0 none none ht rfl (by omega)
    have e1 : m_is_key k [.sh (.int t.key)] = rb true := by
      obtain ⟨j, rfl⟩ : ∃ j, k = j + 1 := ⟨k - 1, by omega⟩
      exact e_is_key j _
    have e2 := t.cs_len
    simp [m_is_tree, b_is_tree, Bn.d, e1, e2, L]
def Bn.cl : Bn → List Bn
  | .leaf _ => []
  | .link o t => o :: t.cl
theorem Bn.cs_cl : ∀ t : Bn, t.cs = t.cl.map Bn.d
  | .leaf _ => rfl
  | .link o t => by simp only [Bn.cs, Bn.cl, List.map_cons, t.cs_cl]; rfl
theorem Bn.cl_ok : ∀ t : Bn, t.ok → ∀ o ∈ t.cl, o.ok ∧ o.ord < t.ord
  | .leaf _, _, o, m => absurd m List.not_mem_nil
  | .link c t, h, o, m => by
    obtain ⟨h1, h2, h3, h4⟩ := h
    rcases List.mem_cons.mp m with rfl | m
    · exact ⟨h3, by simp only [Bn.ord]; omega⟩
    · obtain ⟨q1, q2⟩ := t.cl_ok h4 o m
      exact ⟨q1, by simp only [Bn.ord]; omega⟩
theorem e_l_same_tree : ∀ (k : Nat) (t : Bn), t.ok → t.ord < k → t.ord ≤ 1000 → m_l_same_tree k [.sh t.d] = ok t.d
  | 0, t, _, h, _ => absurd h (by omega)
  | k + 1, t, ht, h, h2 => by
    have e := lcGo_map (t := tgN 1) (c := vC (.bool true)) (e := calF 1 (m_l_same_tree k) [vVar 1]) (env := [some (.sh t.d), none]) Bn.d Bn.d t.cl fun o m => by
      obtain ⟨q1, q2⟩ := t.cl_ok ht o m
      have := e_l_same_tree k o q1 (by omega) (by omega)
      exact ⟨_, rfl, rfl, by simp [this]⟩
    have l : t.cl.length ≤ 1000000 := by
      have := t.cs_len
      rw [t.cs_cl, List.length_map] at this; omega
    simp only [Bn.d, t.cs_cl] at e
    simp [m_l_same_tree, b_l_same_tree, Bn.d, t.cs_cl, e, l]
theorem e_l_same (k : Nat) (ps : List Bn) (h : ∀ t ∈ ps, t.ok ∧ t.ord + 1 < k ∧ t.ord ≤ 1000) (hl : ps.length ≤ 1000) (hk : 1 ≤ k) : m_l_same_k01 k [.sh (.list (ps.map Bn.d))] = .val (.ow (ps.map Bn.d)) := by
  obtain ⟨k, rfl⟩ := k_succ (n := 0) (k := k) (by omega)
  have e := lcGo_map (t := tgN 1) (c := vC (.bool true)) (e := calF 1 (m_l_same_tree k) [vVar 1]) (env := [some (.sh (.list (ps.map Bn.d))), none]) Bn.d Bn.d ps fun o m => by
    obtain ⟨q1, q2, q3⟩ := h o m
    have := e_l_same_tree k o q1 (by omega) (by omega)
    exact ⟨_, rfl, rfl, by simp [this]⟩
  have l : ps.length ≤ 1000000 := by omega
  simp [m_l_same_k01, b_l_same_k01, e, l]
theorem Bn.keys_link (o t : Bn) : (Bn.link o t).keys.Perm (o.keys ++ t.keys) := by
  simp only [Bn.keys, Bn.key, Bn.ks, List.cons_append]
  exact (List.Perm.swap _ _ _).trans ((List.perm_middle).symm.cons _)
def pks (ps : List Bn) : List Int := ps.flatMap Bn.keys
structure PileOk (ps : List Bn) : Prop where
  ok : ∀ t ∈ ps, t.ok ∧ t.ord ≤ 5
  inc : ps.Pairwise fun a b => a.ord < b.ord
  tot : (pks ps).length ≤ 40
theorem pks_cons (t : Bn) (ps : List Bn) : pks (t :: ps) = t.keys ++ pks ps := rfl
theorem pks_app (a b : List Bn) : pks (a ++ b) = pks a ++ pks b := by simp [pks]
theorem E_order_of (t : Bn) (k : Nat) (hk : 1 ≤ k) : m_order_of k [.sh t.d] = ri (t.ord : Nat) := by
  obtain ⟨k, rfl⟩ := k_succ (n := 0) (k := k) (by omega)
  have := t.cs_len
  simp [m_order_of, b_order_of, Bn.d, this]
theorem pile_loop (k : Nat) (hk : 20 ≤ k) (th : Option SV) : ∀ (ps : List Bn) (last many : Int) (b3 b4 : Option SV), (∀ t ∈ ps, t.ok ∧ t.ord ≤ 5) → ps.Pairwise (fun a b => a.ord < b.ord) → (∀ t ∈ ps, last < t.ord) →
    ∃ c1 c3 c4, forL (tgN 3) (p_is_pile_1 (m_order_of k) (m_is_tree k)) (ps.map Bn.d) [th, some (.sh (.int last)), some (.sh (.int many)), b3, b4] = .nx [th, c1, some (.sh (.int (many + (pks ps).length))), c3, c4]
  | [], last, many, b3, b4, _, _, _ => ⟨some (.sh (.int last)), b3, b4, by simp [pks]⟩
  | t :: r, last, many, b3, b4, h, hi, hl => by
    obtain ⟨t1, t2⟩ := h t List.mem_cons_self
    obtain ⟨i1, i2⟩ := List.pairwise_cons.mp hi
    have q := hl t List.mem_cons_self
    have e1 := E_order_of t k (by omega)
    have e2 := e_is_tree k t t1 (by omega)
    have q1 : ¬ (t.ord : Int) ≤ last := by omega
    have q2 : ¬ (5 : Int) < t.ord := by omega
    have q3 : (t.ord : Int) ≤ 1000000 := by omega
    obtain ⟨c1, c3, c4, ih⟩ := pile_loop k hk th r t.ord (many + (2 ^ t.ord : Nat)) (some (.sh t.d)) (some (.sh (.int t.ord))) (fun s m => h s (List.mem_cons_of_mem _ m)) i2 (fun s m => by have := i1 s m; omega)
    refine ⟨c1, c3, c4, ?_⟩
    rw [List.map_cons, forL_go (env' := [th, some (.sh (.int last)), some (.sh (.int many)), some (.sh t.d), b4]) (e := [th, some (.sh (.int t.ord)), some (.sh (.int (many + (2 ^ t.ord : Nat)))), some (.sh t.d), some (.sh (.int t.ord))]) (by simp) (by
      simp only [Bn.d] at e1 e2
      simp [p_is_pile_1, Bn.d, e1, e2, q1, q2, q3])]
    rw [ih, pks_cons, List.length_append, t.keys_len t1]
    have : many + ((2 ^ t.ord : Nat) : Int) + ((pks r).length : Int) = many + ((2 ^ t.ord + (pks r).length : Nat) : Int) := by omega
    rw [this]
theorem E_is_pile (ps : List Bn) (k : Nat) (hk : 30 ≤ k) (h : PileOk ps) : m_is_pile k [.sh (.list (ps.map Bn.d))] = rb true := by
  obtain ⟨k, rfl⟩ := k_succ (n := 0) (k := k) (by omega)
  obtain ⟨c1, c3, c4, L⟩ := pile_loop k (by omega) (some (.sh (.list (ps.map Bn.d)))) ps (-1) 0 none none h.ok h.inc (fun t _ => by omega)
  have q := h.tot
  have q' : ((pks ps).length : Int) ≤ 40 := by omega
  simp only [Int.zero_add] at L
  simp [m_is_pile, b_is_pile, L, q, q']
theorem E_check_pile (ps : List Bn) (k : Nat) (hk : 40 ≤ k) (h : PileOk ps) : m_check_pile k [.sh (.list (ps.map Bn.d))] = .val (.sh .none) := by
  obtain ⟨k, rfl⟩ := k_succ (n := 0) (k := k) (by omega)
  have e := E_is_pile ps k (by omega) h
  simp [m_check_pile, b_check_pile, e]
theorem pks_ge : ∀ ps : List Bn, ps.length ≤ (pks ps).length
  | [] => Nat.le_refl _
  | t :: r => by
    have := pks_ge r
    rw [pks_cons, List.length_append, List.length_cons]; simp only [Bn.keys, List.length_cons]; omega
theorem bn_depth : ∀ t : Bn, t.ok → PyData.depthAll t.cs ≤ 2 * t.ord
  | .leaf _, _ => by simp [Bn.cs, PyData.depthAll]
  | .link o t, h => by
    obtain ⟨h1, _, h3, h4⟩ := h
    have a := bn_depth o h3
    have b := bn_depth t h4
    simp only [Bn.cs, PyData.depthAll, PyData.depth, Bn.ord]; omega
theorem bn_eqv : ∀ t : Bn, PyData.eqvAll t.cs t.cs = true
  | .leaf _ => by simp [Bn.cs, PyData.eqvAll]
  | .link o t => by simp [Bn.cs, PyData.eqvAll, PyData.eqv, bn_eqv o, bn_eqv t]
theorem pd_depth {ps : List Bn} (h : ∀ t ∈ ps, t.ok ∧ t.ord ≤ 5) : PyData.depthAll (ps.map Bn.d) ≤ 12 := by
  induction ps with
  | nil => simp [PyData.depthAll]
  | cons t r ih =>
    have a := bn_depth t (h t List.mem_cons_self).1
    have b := (h t List.mem_cons_self).2
    have c := ih fun s m => h s (List.mem_cons_of_mem _ m)
    simp only [List.map_cons, PyData.depthAll, Bn.d, PyData.depth]; omega
theorem pd_eqv (ps : List Bn) : PyData.eqvAll (ps.map Bn.d) (ps.map Bn.d) = true := by
  induction ps with
  | nil => simp [PyData.eqvAll]
  | cons t r ih => simp [PyData.eqvAll, PyData.eqv, Bn.d, bn_eqv t, ih]
theorem pks_sub {a b : List Bn} (h : a.Sublist b) : (pks a).length ≤ (pks b).length := by
  induction h with
  | slnil => exact Nat.le_refl _
  | cons x _ ih => rw [pks_cons, List.length_append]; omega
  | cons_cons x _ ih => rw [pks_cons, pks_cons, List.length_append, List.length_append]; omega
theorem sum_ints : ∀ l : List Nat, (l.map fun n : Nat => (n : Int)).sum = ((l.sum : Nat) : Int)
  | [] => rfl
  | x :: r => by rw [List.map_cons, List.sum_cons, List.sum_cons, sum_ints r, Int.natCast_add]
theorem run_rt (n : Nat) (B : FS) (as : List SV) (R : SV) (env : VEnv) (h : as.map some ++ List.replicate (n - as.length) none = env) (q : B env = .rt R) : runB n B as = .val R := by
  subst h
  unfold runB
  rw [q]
theorem rngD_nat (n : Nat) : rngD 0 1 n = (List.range n).map fun (N : Nat) => PyData.int (N : Int) := by
  unfold rngD
  refine List.map_congr_left fun i _ => ?_
  simp
theorem seq_nx {a b : FS} {env e : VEnv} (h : a env = .nx e) : sSeq a b env = b e := by simp [sSeq, h]
theorem eqv_ints_refl : ∀ ns : List Int, PyData.eqvAll (ns.map .int) (ns.map .int) = true
  | [] => rfl
  | n :: r => by simp [PyData.eqvAll, eqv_ints_refl r]
def lnk (a b : Bn) : Bn := if b.key < a.key then .link a b else .link b a
theorem lnk_ok {a b : Bn} (ha : a.ok) (hb : b.ok) (h : a.ord = b.ord) : (lnk a b).ok ∧ (lnk a b).ord = a.ord + 1 := by
  unfold lnk
  split
  · exact ⟨⟨h, by omega, ha, hb⟩, by simp only [Bn.ord, h]⟩
  · exact ⟨⟨h.symm, by omega, hb, ha⟩, by simp only [Bn.ord]⟩
theorem lnk_keys (a b : Bn) : (lnk a b).keys.Perm (a.keys ++ b.keys) := by
  unfold lnk
  split
  · exact Bn.keys_link a b
  · exact (Bn.keys_link b a).trans List.perm_append_comm
theorem e_linked (a b : Bn) (k : Nat) (hk : 1 ≤ k) (h1 : a.ord ≤ 1000) (h2 : b.ord ≤ 1000) : m_linked k [.sh a.d, .sh b.d] = ok (lnk a b).d := by
  obtain ⟨k, rfl⟩ : ∃ j, k = j + 1 := ⟨k - 1, by omega⟩
  have c1 := a.cs_len
  have c2 := b.cs_len
  unfold lnk
  rw [m_linked]
  by_cases c : b.key < a.key
  · rw [if_pos c]
    have l : b.cs.length + 1 ≤ 1000000 := by omega
    have l' : 1 + b.cs.length ≤ 1000000 := by omega
    simp [Bn.d, Bn.key, Bn.cs, b_linked, c, l, l']
  · rw [if_neg c]
    have l : a.cs.length + 1 ≤ 1000000 := by omega
    have l' : 1 + a.cs.length ≤ 1000000 := by omega
    simp [Bn.d, Bn.key, Bn.cs, b_linked, c, l, l']
theorem copied_body (g : List SV → R) (key : Int) (cs : List D) (hl : cs.length ≤ 1000) (h : ∀ d ∈ cs, g [.sh d] = ok d) : b_copied g [some (.sh (.tuple [.int key, .list cs])), none] = .rt (.sh (.tuple [.int key, .list cs])) := by
  have e := lcGo_map (t := tgN 1) (c := vC (.bool true)) (e := calF 1 g [vVar 1]) (env := [some (.sh (.tuple [.int key, .list cs])), none]) (id : D → D) id cs fun d hd => by
    refine ⟨[some (.sh (.tuple [.int key, .list cs])), some (.sh d)], rfl, rfl, ?_⟩
    have := h d hd
    simp [this]
  rw [List.map_id] at e
  have l : cs.length ≤ 1000000 := by omega
  unfold b_copied
  generalize calF 1 g [vVar 1] = CC at *
  simp [e, l]
theorem e_copied : ∀ (n : Nat) (t : Bn) (k : Nat), t.ok → t.ord ≤ n → t.ord < k → t.ord ≤ 1000 → m_copied k [.sh t.d] = ok t.d
  | n, t, k, ho, hn, hk, h1 => by
    obtain ⟨k, rfl⟩ : ∃ j, k = j + 1 := ⟨k - 1, by omega⟩
    rw [m_copied]
    refine run_rt 2 _ _ _ _ rfl (copied_body _ t.key t.cs (by rw [t.cs_len]; exact h1) fun d hd => ?_)
    rw [t.cs_cl] at hd
    obtain ⟨o, mo, rfl⟩ := List.mem_map.mp hd
    obtain ⟨c1, c2⟩ := t.cl_ok ho o mo
    match n, hn with
    | 0, hn => omega
    | n + 1, hn => exact e_copied n o k c1 (by omega) (by omega) (by omega)
theorem pks_len2 : ∀ ps : List Bn, (∀ t ∈ ps, t.ok) → (pks ps).length = (ps.map fun t => 2 ^ t.ord).sum
  | [], _ => rfl
  | t :: r, h => by
    rw [pks_cons, List.length_append, Bn.keys_len t (h t List.mem_cons_self), List.map_cons, List.sum_cons, pks_len2 r fun x m => h x (List.mem_cons_of_mem _ m)]
theorem e_count_of (ps : List Bn) (k : Nat) (hk : 2 ≤ k) (hl : ps.length ≤ 1000) (h : ∀ t ∈ ps, t.ok ∧ t.ord ≤ 5) : m_count_of k [.sh (.list (ps.map Bn.d))] = ri ((pks ps).length : Nat) := by
  obtain ⟨k, rfl⟩ : ∃ j, k = j + 1 := ⟨k - 1, by omega⟩
  have e := lcGo_map (t := tgN 1) (c := vC (.bool true)) (e := op2 fShl (vC (.int 1)) (calF 1 (m_order_of k) [vVar 1])) (env := [some (.sh (.list (ps.map Bn.d))), none]) Bn.d (fun t => .int ((2 ^ t.ord : Nat) : Int)) ps fun t ht => by
    have q := E_order_of t k (by omega)
    have o5 := (h t ht).2
    refine ⟨[some (.sh (.list (ps.map Bn.d))), some (.sh t.d)], rfl, rfl, ?_⟩
    generalize t.d = T at *
    have p : (2 : Int) ^ t.ord = ((2 ^ t.ord : Nat) : Int) := by push_cast; rfl
    have o6 : (t.ord : Int) ≤ 1000000 := by omega
    simp [q, o6]
  have e2 : ps.map (fun t => PyData.int ((2 ^ t.ord : Nat) : Int)) = ((ps.map fun t => 2 ^ t.ord).map fun n : Nat => (n : Int)).map .int := by rw [List.map_map, List.map_map]; rfl
  rw [e2] at e
  have s := sum_ints (ps.map fun t => 2 ^ t.ord)
  have io := intsOf_map ((ps.map fun t => 2 ^ t.ord).map fun n : Nat => (n : Int))
  rw [pks_len2 ps fun t m => (h t m).1]
  have l : (ps.map Bn.d).length ≤ 1000000 := by rw [List.length_map]; omega
  rw [m_count_of]
  unfold b_count_of
  generalize (ps.map fun t => 2 ^ t.ord) = NN at *
  generalize (NN.map fun n : Nat => (n : Int)) = II at *
  generalize op2 fShl (vC (.int 1)) (calF 1 (m_order_of k) [vVar 1]) = CC at *
  generalize ps.map Bn.d = PD at *
  simp [e, l, io, s]
structure Jn (A : List Bn) (o : Nat) (F C : List Bn) (n : Nat) : Prop where
  fo : ∀ t ∈ F, t.ok ∧ t.ord < o
  fi : F.Pairwise fun a b => a.ord < b.ord
  co : ∀ t ∈ C, t.ok ∧ t.ord = o
  cl : C.length ≤ 1
  ky : (pks F ++ (pks C ++ pks (A.filter fun t => decide (o ≤ t.ord)))).Perm (pks A)
  ct : F.length + C.length + (A.filter fun t => decide (o ≤ t.ord)).length + n = A.length
theorem flt_split (A : List Bn) (o : Nat) : (A.filter fun t => decide (o ≤ t.ord)).Perm ((A.filter fun t => decide (t.ord = o)) ++ (A.filter fun t => decide (o + 1 ≤ t.ord))) := by
  induction A with
  | nil => exact .refl _
  | cons t A ih =>
    by_cases c : t.ord = o
    · simp only [List.filter_cons, c, Nat.le_refl, decide_true, if_true, show ¬ (o + 1 ≤ o) by omega, decide_false, Bool.false_eq_true, if_false, List.cons_append]
      exact ih.cons _
    · by_cases d : o ≤ t.ord
      · simp only [List.filter_cons, c, d, decide_true, if_true, show o + 1 ≤ t.ord by omega, decide_false, Bool.false_eq_true, if_false]
        exact (ih.cons _).trans List.perm_middle.symm
      · simp only [List.filter_cons, c, d, show ¬ (o + 1 ≤ t.ord) by omega, decide_false, Bool.false_eq_true, if_false]
        exact ih
theorem pks_perm {a b : List Bn} (h : a.Perm b) : (pks a).Perm (pks b) := h.flatMap_right _
def stepX (X : List Bn) : List Bn × List Bn × Nat := match X with
  | a :: b :: r => (r, [lnk a b], 1)
  | X => (X, [], 0)
theorem jn_step {A : List Bn} {o : Nat} {F C : List Bn} {n : Nat} (J : Jn A o F C n) (ha : ∀ t ∈ A, t.ok) (h2 : (A.filter fun t => decide (t.ord = o)).length ≤ 2) : Jn A (o + 1) (F ++ (stepX ((A.filter fun t => decide (t.ord = o)) ++ C)).1) (stepX ((A.filter fun t => decide (t.ord = o)) ++ C)).2.1 (n + (stepX ((A.filter fun t => decide (t.ord = o)) ++ C)).2.2) := by
  have hX : ∀ t ∈ (A.filter fun t => decide (t.ord = o)) ++ C, t.ok ∧ t.ord = o := fun t m => by
    rcases List.mem_append.mp m with m | m
    · obtain ⟨m1, m2⟩ := List.mem_filter.mp m
      exact ⟨ha t m1, of_decide_eq_true m2⟩
    · exact J.co t m
  have hl : ((A.filter fun t => decide (t.ord = o)) ++ C).length ≤ 3 := by
    rw [List.length_append]; have := J.cl; omega
  have sp := flt_split A o
  have kx : (pks F ++ (pks ((A.filter fun t => decide (t.ord = o)) ++ C) ++ pks (A.filter fun t => decide (o + 1 ≤ t.ord)))).Perm (pks A) := by
    refine List.Perm.trans (List.Perm.append_left _ ?_) J.ky
    have p := pks_perm sp
    rw [pks_app] at p ⊢
    refine List.Perm.trans ?_ (List.Perm.append_left _ p.symm)
    rw [List.append_assoc]
    refine (List.perm_append_comm_assoc _ _ _)
  have cx : F.length + ((A.filter fun t => decide (t.ord = o)) ++ C).length + (A.filter fun t => decide (o + 1 ≤ t.ord)).length + n = A.length := by
    have c := J.ct
    rw [sp.length_eq, List.length_append] at c
    rw [List.length_append]; omega
  generalize (A.filter fun t => decide (t.ord = o)) ++ C = X at *
  match X, hX, hl, kx, cx with
  | [], _, _, kx, cx =>
    refine ⟨fun t m => ?_, ?_, fun t m => absurd m List.not_mem_nil, by simp [stepX], by simpa [stepX, pks] using kx, by simp [stepX] at cx ⊢; omega⟩
    · simp only [stepX, List.append_nil] at m
      have := J.fo t m; exact ⟨this.1, by omega⟩
    · simp only [stepX, List.append_nil]; exact J.fi
  | [a], hX, _, kx, cx =>
    have ha := hX a List.mem_cons_self
    refine ⟨fun t m => ?_, ?_, fun t m => absurd m List.not_mem_nil, by simp [stepX], ?_, by simp [stepX] at cx ⊢; omega⟩
    · simp only [stepX] at m
      rcases List.mem_append.mp m with m | m
      · have := J.fo t m; exact ⟨this.1, by omega⟩
      · rw [List.mem_singleton.mp m]; exact ⟨ha.1, by omega⟩
    · simp only [stepX]
      refine List.pairwise_append.mpr ⟨J.fi, by simp, fun x mx y my => ?_⟩
      rw [List.mem_singleton.mp my]
      have := (J.fo x mx).2; omega
    · simp only [stepX]
      rw [pks_app, List.append_assoc]
      simpa [pks] using kx
  | a :: b :: r, hX, hl, kx, cx =>
    have ha := hX a List.mem_cons_self
    have hb := hX b (List.mem_cons_of_mem _ List.mem_cons_self)
    have lk := lnk_ok ha.1 hb.1 (by rw [ha.2, hb.2])
    have rl : r.length ≤ 1 := by simp only [List.length_cons] at hl; omega
    refine ⟨fun t m => ?_, ?_, fun t m => ?_, by simp [stepX], ?_, by simp [stepX] at cx ⊢; omega⟩
    · simp only [stepX] at m
      rcases List.mem_append.mp m with m | m
      · have := J.fo t m; exact ⟨this.1, by omega⟩
      · have := hX t (List.mem_cons_of_mem _ (List.mem_cons_of_mem _ m)); exact ⟨this.1, by omega⟩
    · simp only [stepX]
      refine List.pairwise_append.mpr ⟨J.fi, ?_, fun x mx y my => ?_⟩
      · match r, rl with
        | [], _ => exact .nil
        | [_], _ => simp
      · have h1 := (J.fo x mx).2
        have h2 := (hX y (List.mem_cons_of_mem _ (List.mem_cons_of_mem _ my))).2
        omega
    · simp only [stepX] at m
      rw [List.mem_singleton.mp m]
      exact ⟨lk.1, by rw [lk.2, ha.2]⟩
    · simp only [stepX]
      rw [pks_app, List.append_assoc]
      refine List.Perm.trans (List.Perm.append_left _ ?_) kx
      have e1 : pks [lnk a b] = (lnk a b).keys := by simp [pks]
      have e2 : pks (a :: b :: r) = a.keys ++ (b.keys ++ pks r) := by simp [pks]
      rw [e1, e2, ← List.append_assoc]
      refine List.Perm.append_right _ ?_
      refine List.perm_append_comm.trans ?_
      rw [← List.append_assoc]
      exact List.Perm.append_right _ (lnk_keys a b)
theorem lc_ord (g1 : List SV → R) (A : List Bn) (o : Nat) (h : ∀ t ∈ A, g1 [.sh t.d] = ri (t.ord : Nat)) (a0 a1 a2 a3 a4 a5 a7 : Option SV) : lcGo (tgN 8) (op2 fEq (calF 1 g1 [vVar 8]) (vVar 6)) (vVar 8) [a0, a1, a2, a3, a4, a5, some (.sh (.int (o : Nat))), a7, none] (A.map Bn.d) = some ((A.filter fun t => decide (t.ord = o)).map Bn.d) := by
  refine lcGo_filter Bn.d Bn.d (fun t => decide (t.ord = o)) A fun t ht => ?_
  have q := h t ht
  refine ⟨[a0, a1, a2, a3, a4, a5, some (.sh (.int (o : Nat))), a7, some (.sh t.d)], rfl, ?_, fun _ => ?_⟩
  · generalize t.d = T at *
    have e : ((t.ord : Int) == (o : Int)) = decide (t.ord = o) := by
      rw [Bool.eq_iff_iff, beq_iff_eq, decide_eq_true_eq]; omega
    simp [q, fEq, PyData.depth, PyData.eqv]
    rw [← e]
  · generalize t.d = T at *
    simp
theorem jn_model (g1 g2 : List SV → R) (A1 A2 : List Bn) (o n : Nat) (F C : List Bn) (hi z7 : Option SV) (hA : A1.length + A2.length ≤ 1000) (hF : F.length ≤ 1000) (hC : C.length ≤ 1) (h2 : ((A1 ++ A2).filter fun t => decide (t.ord = o)).length ≤ 2) (h1 : ∀ t ∈ A1 ++ A2, g1 [.sh t.d] = ri (t.ord : Nat)) (hl : ∀ a b, a ∈ ((A1 ++ A2).filter fun t => decide (t.ord = o)) ++ C → b ∈ ((A1 ++ A2).filter fun t => decide (t.ord = o)) ++ C → g2 [.sh a.d, .sh b.d] = ok (lnk a b).d) :
    ∃ y7, p_joinP_1 g1 g2 [some (.sh (.list (A1.map Bn.d))), some (.sh (.list (A2.map Bn.d))), some (.ow (F.map Bn.d)), some (.sh (.list (C.map Bn.d))), some (.sh (.int (n : Nat))), hi, some (.sh (.int (o : Nat))), z7, none] = .nx [some (.sh (.list (A1.map Bn.d))), some (.sh (.list (A2.map Bn.d))), some (.ow ((F ++ (stepX (((A1 ++ A2).filter fun t => decide (t.ord = o)) ++ C)).1).map Bn.d)), some (.sh (.list ((stepX (((A1 ++ A2).filter fun t => decide (t.ord = o)) ++ C)).2.1.map Bn.d))), some (.sh (.int ((n + (stepX (((A1 ++ A2).filter fun t => decide (t.ord = o)) ++ C)).2.2 : Nat) : Int))), hi, some (.sh (.int (o : Nat))), y7, none] := by
  have lc := lc_ord g1 (A1 ++ A2) o h1 (some (.sh (.list (A1.map Bn.d)))) (some (.sh (.list (A2.map Bn.d)))) (some (.ow (F.map Bn.d))) (some (.sh (.list (C.map Bn.d)))) (some (.sh (.int (n : Nat)))) hi z7
  have lx : (((A1 ++ A2).filter fun t => decide (t.ord = o)) ++ C).length ≤ 3 := by rw [List.length_append]; omega
  have lf : ((A1 ++ A2).filter fun t => decide (t.ord = o)).length ≤ 2 := h2
  have l0 : (A1.map Bn.d).length + (A2.map Bn.d).length ≤ 1000000 := by rw [List.length_map, List.length_map]; omega
  have l00 : ((A1 ++ A2).map Bn.d).length ≤ 1000000 := by rw [List.length_map, List.length_append]; omega
  have lc0 : (((A1 ++ A2).filter fun t => decide (t.ord = o)).map Bn.d).length + (C.map Bn.d).length ≤ 1000000 := by rw [List.length_map, List.length_map]; omega
  have eX : (((A1 ++ A2).filter fun t => decide (t.ord = o)) ++ C).map Bn.d = ((A1 ++ A2).filter fun t => decide (t.ord = o)).map Bn.d ++ C.map Bn.d := List.map_append
  have lF : (F.map Bn.d).length + 3 ≤ 1000000 := by rw [List.length_map]; omega
  have eA : (A1 ++ A2).map Bn.d = A1.map Bn.d ++ A2.map Bn.d := List.map_append
  rw [eA] at lc l00
  generalize hX : ((A1 ++ A2).filter fun t => decide (t.ord = o)) ++ C = X at *
  generalize ((A1 ++ A2).filter fun t => decide (t.ord = o)).map Bn.d = S1 at *
  generalize C.map Bn.d = CD at *
  generalize A1.map Bn.d = D1 at *
  generalize A2.map Bn.d = D2 at *
  unfold p_joinP_1
  have s1 : sSet 7 (op2 fAdd (vLc [8] (tgN 8) (itD iL (op2 fAdd (vVar 0) (vVar 1))) (op2 fEq (calF 1 g1 [vVar 8]) (vVar 6)) (vVar 8)) (vVar 3)) [some (.sh (.list D1)), some (.sh (.list D2)), some (.ow (F.map Bn.d)), some (.sh (.list CD)), some (.sh (.int (n : Nat))), hi, some (.sh (.int (o : Nat))), z7, none] = .nx [some (.sh (.list D1)), some (.sh (.list D2)), some (.ow (F.map Bn.d)), some (.sh (.list CD)), some (.sh (.int (n : Nat))), hi, some (.sh (.int (o : Nat))), some (.sh (.list (X.map Bn.d))), none] := by
    rw [eX]
    generalize op2 fEq (calF 1 g1 [vVar 8]) (vVar 6) = CC at *
    generalize F.map Bn.d = FD at *
    simp [l0, lc, lc0]
  have fin : ∀ (CC' : FS) (a3 a4 : Option SV) (Y : List D), Y.length ≤ 3 → sExt 2 (vVar 7) [some (.sh (.list D1)), some (.sh (.list D2)), some (.ow (F.map Bn.d)), a3, a4, hi, some (.sh (.int (o : Nat))), some (.sh (.list Y)), none] = .nx [some (.sh (.list D1)), some (.sh (.list D2)), some (.ow (F.map Bn.d ++ Y)), a3, a4, hi, some (.sh (.int (o : Nat))), some (.sh (.list Y)), none] := by
    intro _ a3 a4 Y hY
    have : (F.map Bn.d).length + Y.length ≤ 1000000 := by omega
    generalize F.map Bn.d = FD at *
    simp [this]
  clear hX eX lc lc0 lf l00 l0
  match X, hl, lx, s1 with
  | [], hl, lx, s1 =>
    refine ⟨some (.sh (.list [])), ?_⟩
    refine (seq_nx s1).trans ?_
    refine (seq_nx (e := [some (.sh (.list D1)), some (.sh (.list D2)), some (.ow (F.map Bn.d)), some (.sh (.list [])), some (.sh (.int (n : Nat))), hi, some (.sh (.int (o : Nat))), some (.sh (.list [])), none]) ?_).trans ?_
    · generalize F.map Bn.d = FD at *
      simp
    refine (seq_nx (e := [some (.sh (.list D1)), some (.sh (.list D2)), some (.ow (F.map Bn.d)), some (.sh (.list [])), some (.sh (.int (n : Nat))), hi, some (.sh (.int (o : Nat))), some (.sh (.list [])), none]) ?_).trans ?_
    · generalize F.map Bn.d = FD at *
      simp
    have := fin sNil (some (.sh (.list []))) (some (.sh (.int (n : Nat)))) [] (by simp)
    simp only [stepX, List.append_nil, List.map_nil, Nat.add_zero] at this ⊢
    exact this
  | [a], hl, lx, s1 =>
    refine ⟨some (.sh (.list [a.d])), ?_⟩
    refine (seq_nx s1).trans ?_
    refine (seq_nx (e := [some (.sh (.list D1)), some (.sh (.list D2)), some (.ow (F.map Bn.d)), some (.sh (.list [])), some (.sh (.int (n : Nat))), hi, some (.sh (.int (o : Nat))), some (.sh (.list [a.d])), none]) ?_).trans ?_
    · rw [show [a].map Bn.d = [a.d] from rfl]
      generalize F.map Bn.d = FD at *
      generalize a.d = AD at *
      simp
    refine (seq_nx (e := [some (.sh (.list D1)), some (.sh (.list D2)), some (.ow (F.map Bn.d)), some (.sh (.list [])), some (.sh (.int (n : Nat))), hi, some (.sh (.int (o : Nat))), some (.sh (.list [a.d])), none]) ?_).trans ?_
    · generalize F.map Bn.d = FD at *
      generalize a.d = AD at *
      simp
    have := fin sNil (some (.sh (.list []))) (some (.sh (.int (n : Nat)))) [a.d] (by simp)
    simp only [stepX, List.map_append, List.map_cons, List.map_nil, Nat.add_zero] at this ⊢
    exact this
  | a :: b :: r, hl, lx, s1 =>
    have q := hl a b List.mem_cons_self (List.mem_cons_of_mem _ List.mem_cons_self)
    have rl : (r.map Bn.d).length ≤ 1 := by rw [List.length_map]; simp only [List.length_cons] at lx; omega
    refine ⟨some (.sh (.list (r.map Bn.d))), ?_⟩
    refine (seq_nx s1).trans ?_
    have fm : (F ++ r).map Bn.d = F.map Bn.d ++ r.map Bn.d := List.map_append
    simp only [stepX, fm, List.map_cons, List.map_nil]
    generalize (lnk a b).d = LD at *
    generalize a.d = AD at *
    generalize b.d = BD at *
    generalize r.map Bn.d = RD' at *
    refine (seq_nx (e := [some (.sh (.list D1)), some (.sh (.list D2)), some (.ow (F.map Bn.d)), some (.sh (.list [])), some (.sh (.int (n : Nat))), hi, some (.sh (.int (o : Nat))), some (.sh (.list (AD :: BD :: RD'))), none]) ?_).trans ?_
    · generalize F.map Bn.d = FD at *
      simp
    refine (seq_nx (e := [some (.sh (.list D1)), some (.sh (.list D2)), some (.ow (F.map Bn.d)), some (.sh (.list [LD])), some (.sh (.int ((n + 1 : Nat) : Int))), hi, some (.sh (.int (o : Nat))), some (.sh (.list RD')), none]) ?_).trans ?_
    · generalize F.map Bn.d = FD at *
      have c : (1 : Int) < ((RD'.length : Int) + 1 + 1) := by omega
      simp [c, q]
    exact fin sNil _ _ RD' (by omega)
theorem one_ord {A : List Bn} (h : A.Pairwise fun a b => a.ord < b.ord) (o : Nat) : (A.filter fun t => decide (t.ord = o)).length ≤ 1 := by
  have p : (A.filter fun t => decide (t.ord = o)).Pairwise fun a b => a.ord < b.ord := h.sublist List.filter_sublist
  have q : ∀ t ∈ A.filter fun t => decide (t.ord = o), t.ord = o := fun t m => of_decide_eq_true (List.mem_filter.mp m).2
  generalize (A.filter fun t => decide (t.ord = o)) = L at *
  match L, p, q with
  | [], _, _ => simp
  | [_], _, _ => simp
  | a :: b :: r, p, q =>
    have h1 := q a List.mem_cons_self
    have h2 := q b (List.mem_cons_of_mem _ List.mem_cons_self)
    have := List.rel_of_pairwise_cons p (List.mem_cons_self)
    omega
theorem two_ord {A1 A2 : List Bn} (h1 : A1.Pairwise fun a b => a.ord < b.ord) (h2 : A2.Pairwise fun a b => a.ord < b.ord) (o : Nat) : ((A1 ++ A2).filter fun t => decide (t.ord = o)).length ≤ 2 := by
  rw [List.filter_append, List.length_append]
  have := one_ord h1 o
  have := one_ord h2 o
  omega
theorem jn_loop (k : Nat) (hk : 2 ≤ k) (A1 A2 : List Bn) (hA : A1.length + A2.length ≤ 100) (ho : ∀ t ∈ A1 ++ A2, t.ok ∧ t.ord ≤ 50) (i1 : A1.Pairwise fun a b => a.ord < b.ord) (i2 : A2.Pairwise fun a b => a.ord < b.ord) (hi : Option SV) : ∀ (m o : Nat) (F C : List Bn) (n : Nat) (z6 z7 : Option SV), Jn (A1 ++ A2) o F C n → (∀ t ∈ A1 ++ A2, t.ord < o + m) → o + m ≤ 60 →
    ∃ F' n' y6 y7, Jn (A1 ++ A2) (o + m + 1) F' [] n' ∧ forL (tgN 6) (p_joinP_1 (m_order_of k) (m_linked k)) ((List.range' o (m + 1)).map fun (i : Nat) => PyData.int (i : Int)) [some (.sh (.list (A1.map Bn.d))), some (.sh (.list (A2.map Bn.d))), some (.ow (F.map Bn.d)), some (.sh (.list (C.map Bn.d))), some (.sh (.int (n : Nat))), hi, z6, z7, none] = .nx [some (.sh (.list (A1.map Bn.d))), some (.sh (.list (A2.map Bn.d))), some (.ow (F'.map Bn.d)), some (.sh (.list [])), some (.sh (.int (n' : Nat))), hi, y6, y7, none] := by
  intro m
  have step : ∀ (o : Nat) (F C : List Bn) (n : Nat) (z7 : Option SV), Jn (A1 ++ A2) o F C n → o ≤ 60 → ∃ y7, p_joinP_1 (m_order_of k) (m_linked k) [some (.sh (.list (A1.map Bn.d))), some (.sh (.list (A2.map Bn.d))), some (.ow (F.map Bn.d)), some (.sh (.list (C.map Bn.d))), some (.sh (.int (n : Nat))), hi, some (.sh (.int (o : Nat))), z7, none] = .nx [some (.sh (.list (A1.map Bn.d))), some (.sh (.list (A2.map Bn.d))), some (.ow ((F ++ (stepX (((A1 ++ A2).filter fun t => decide (t.ord = o)) ++ C)).1).map Bn.d)), some (.sh (.list ((stepX (((A1 ++ A2).filter fun t => decide (t.ord = o)) ++ C)).2.1.map Bn.d))), some (.sh (.int ((n + (stepX (((A1 ++ A2).filter fun t => decide (t.ord = o)) ++ C)).2.2 : Nat) : Int))), hi, some (.sh (.int (o : Nat))), y7, none] := by
    intro o F C n z7 J h60
    have fl : F.length ≤ 1000 := by have := J.ct; rw [List.length_append] at this; omega
    have mo : ∀ x, x ∈ ((A1 ++ A2).filter fun t => decide (t.ord = o)) ++ C → x.ord ≤ 1000 := fun x m => by
      rcases List.mem_append.mp m with m | m
      · have := (ho x (List.mem_filter.mp m).1).2; omega
      · have := (J.co x m).2; omega
    exact jn_model (m_order_of k) (m_linked k) A1 A2 o n F C hi z7 (by omega) fl J.cl (two_ord i1 i2 o) (fun t _ => E_order_of t k (by omega)) (fun a b ma mb => e_linked a b k (by omega) (mo a ma) (mo b mb))
  induction m with
  | zero =>
    intro o F C n z6 z7 J hlt h60
    obtain ⟨y7, e⟩ := step o F C n z7 J (by omega)
    have J' := jn_step J (fun t m => (ho t m).1) (two_ord i1 i2 o)
    have nf : ((A1 ++ A2).filter fun t => decide (t.ord = o)) = [] := by
      rw [List.filter_eq_nil_iff]
      intro t m
      have := hlt t m
      simp; omega
    rw [nf, List.nil_append] at e J'
    have sx : (stepX C).2.1 = [] := by
      match C, J.cl with
      | [], _ => rfl
      | [_], _ => rfl
    rw [sx] at e J'
    refine ⟨_, _, some (.sh (.int (o : Nat))), y7, J', ?_⟩
    rw [show List.range' o (0 + 1) = [o] from rfl, List.map_cons, List.map_nil, forL_go (env' := [some (.sh (.list (A1.map Bn.d))), some (.sh (.list (A2.map Bn.d))), some (.ow (F.map Bn.d)), some (.sh (.list (C.map Bn.d))), some (.sh (.int (n : Nat))), hi, some (.sh (.int (o : Nat))), z7, none]) rfl e]
    rfl
  | succ m ih =>
    intro o F C n z6 z7 J hlt h60
    obtain ⟨y7, e⟩ := step o F C n z7 J (by omega)
    have J' := jn_step J (fun t m => (ho t m).1) (two_ord i1 i2 o)
    obtain ⟨F', n', w6, w7, J2, e2⟩ := ih (o + 1) _ _ _ (some (.sh (.int (o : Nat)))) y7 J' (fun t mt => by have := hlt t mt; omega) (by omega)
    refine ⟨F', n', w6, w7, by rw [show o + (m + 1) + 1 = o + 1 + m + 1 by omega]; exact J2, ?_⟩
    rw [show List.range' o (m + 1 + 1) = o :: List.range' (o + 1) (m + 1) from rfl, List.map_cons, forL_go (env' := [some (.sh (.list (A1.map Bn.d))), some (.sh (.list (A2.map Bn.d))), some (.ow (F.map Bn.d)), some (.sh (.list (C.map Bn.d))), some (.sh (.int (n : Nat))), hi, some (.sh (.int (o : Nat))), z7, none]) rfl e]
    exact e2
theorem lmax_spec {F : List Int} {x : Int} (h : x ∈ F) : ∃ m, lmax F = some m ∧ m ∈ F ∧ ∀ y ∈ F, y ≤ m := by
  cases F with
  | nil => exact absurd h List.not_mem_nil
  | cons a r =>
    obtain ⟨p, q, s⟩ := foldmax_spec r a
    refine ⟨_, rfl, ?_, fun y hy => ?_⟩
    · rcases p with p | p
      · rw [p]; exact List.mem_cons_self
      · exact List.mem_cons_of_mem _ p
    · rcases List.mem_cons.mp hy with rfl | hy
      · exact q
      · exact s y hy
theorem joinP_body (g1 g2 : List SV → R) (A1 A2 : List Bn) (hA : A1.length + A2.length ≤ 100) (m : Nat) (hm : m ≤ 60) (mx : Int) (n : Nat) (FD : List D) (y6 y7 : Option SV) (h1 : ∀ t ∈ A1 ++ A2, g1 [.sh t.d] = ri (t.ord : Nat)) (hx : lmax (((A1 ++ A2).map fun t => (t.ord : Int)) ++ [-1]) = some mx) (em : mx + 2 = ((m + 1 : Nat) : Int))
    (lp : forL (tgN 6) (p_joinP_1 g1 g2) ((List.range' 0 (m + 1)).map fun (i : Nat) => PyData.int (i : Int)) [some (.sh (.list (A1.map Bn.d))), some (.sh (.list (A2.map Bn.d))), some (.ow []), some (.sh (.list [])), some (.sh (.int (0 : Nat))), some (.sh (.int mx)), none, none, none] = .nx [some (.sh (.list (A1.map Bn.d))), some (.sh (.list (A2.map Bn.d))), some (.ow FD), some (.sh (.list [])), some (.sh (.int (n : Nat))), some (.sh (.int mx)), y6, y7, none]) :
    b_joinP g1 g2 [some (.sh (.list (A1.map Bn.d))), some (.sh (.list (A2.map Bn.d))), none, none, none, none, none, none, none] = .rt (.sh (.tuple [.list FD, .int (n : Nat)])) := by
  unfold b_joinP
  have lc := lcGo_map (t := tgN 8) (c := vC (.bool true)) (e := calF 1 g1 [vVar 8]) (env := [some (.sh (.list (A1.map Bn.d))), some (.sh (.list (A2.map Bn.d))), some (.ow []), some (.sh (.list [])), some (.sh (.int 0)), none, none, none, none]) Bn.d (fun t => .int (t.ord : Nat)) (A1 ++ A2) fun t ht => by
    have q := h1 t ht
    refine ⟨[some (.sh (.list (A1.map Bn.d))), some (.sh (.list (A2.map Bn.d))), some (.ow []), some (.sh (.list [])), some (.sh (.int 0)), none, none, none, some (.sh t.d)], rfl, rfl, ?_⟩
    generalize t.d = T at *
    simp [q]
  have e2 : (A1 ++ A2).map (fun t : Bn => PyData.int (t.ord : Nat)) = ((A1 ++ A2).map fun t : Bn => (t.ord : Int)).map .int := by rw [List.map_map]; rfl
  have l0 : (A1.map Bn.d).length + (A2.map Bn.d).length ≤ 1000000 := by rw [List.length_map, List.length_map]; omega
  have l1 : (((A1 ++ A2).map fun t => (t.ord : Int)).map PyData.int).length + 1 ≤ 1000000 := by rw [List.length_map, List.length_map, List.length_append]; omega
  have io := intsOf_map (((A1 ++ A2).map fun t => (t.ord : Int)) ++ [-1])
  have eI : (((A1 ++ A2).map fun t : Bn => (t.ord : Int)) ++ [-1]).map PyData.int = ((A1 ++ A2).map fun t : Bn => (t.ord : Int)).map PyData.int ++ [.int (-1)] := by rw [List.map_append]; rfl
  rw [eI] at io
  rw [e2, List.map_append] at lc
  have rg : ((List.range' 0 (m + 1)).map fun (i : Nat) => PyData.int (i : Int)) = rngD 0 1 (m + 1) := by rw [rngD_nat, List.range_eq_range']
  rw [rg] at lp
  generalize ((A1 ++ A2).map fun t => (t.ord : Int)).map PyData.int = OD at *
  generalize ((A1 ++ A2).map fun t => (t.ord : Int)) ++ [-1] = OI at *
  generalize p_joinP_1 g1 g2 = PP at *
  generalize A1.map Bn.d = D1 at *
  generalize A2.map Bn.d = D2 at *
  refine (seq_nx (e := [some (.sh (.list D1)), some (.sh (.list D2)), some (.ow []), some (.sh (.list [])), some (.sh (.int 0)), none, none, none, none]) ?_).trans ?_
  · simp
  refine (seq_nx (e := [some (.sh (.list D1)), some (.sh (.list D2)), some (.ow []), some (.sh (.list [])), some (.sh (.int 0)), some (.sh (.int mx)), none, none, none]) ?_).trans ?_
  · generalize calF 1 g1 [vVar 8] = CC at *
    simp [l0, lc, l1, io, hx]
  refine (seq_nx (e := [some (.sh (.list D1)), some (.sh (.list D2)), some (.ow FD), some (.sh (.list [])), some (.sh (.int (n : Nat))), some (.sh (.int mx)), y6, y7, none]) ?_).trans ?_
  · have i1 : itA iR1 [op2 fAdd (vVar 5) (vC (.int 2))] [some (.sh (.list D1)), some (.sh (.list D2)), some (.ow []), some (.sh (.list [])), some (.sh (.int 0)), some (.sh (.int mx)), none, none, none] = .val (rngD 0 1 (m + 1)) := by
      have c1 : ((m + 1 : Nat) : Int) ≤ 1000000 := by omega
      have c2 : (-1000000 : Int) ≤ ((m + 1 : Nat) : Int) := by omega
      have c3 : ((m + 1 : Nat) : Int).toNat = m + 1 := Int.toNat_natCast _
      generalize ((m + 1 : Nat) : Int) = MM at *
      simp [em, c1, c2, c3]
    simp only [sFor, i1]
    exact lp
  · simp
theorem E_joinP (A1 A2 : List Bn) (k : Nat) (hk : 3 ≤ k) (ho : ∀ t ∈ A1 ++ A2, t.ok ∧ t.ord ≤ 5) (i1 : A1.Pairwise fun a b => a.ord < b.ord) (i2 : A2.Pairwise fun a b => a.ord < b.ord) (tot : (pks (A1 ++ A2)).length ≤ 40) :
    ∃ ps n, PileOk ps ∧ (pks ps).Perm (pks (A1 ++ A2)) ∧ ps.length + n = A1.length + A2.length ∧ m_joinP k [.sh (.list (A1.map Bn.d)), .sh (.list (A2.map Bn.d))] = ok (.tuple [.list (ps.map Bn.d), .int ((n : Nat) : Int)]) := by
  obtain ⟨k, rfl⟩ : ∃ j, k = j + 1 := ⟨k - 1, by omega⟩
  have lA : A1.length + A2.length ≤ 100 := by
    have := pks_ge (A1 ++ A2)
    rw [List.length_append] at this; omega
  obtain ⟨mx, e1, e2, e3⟩ := lmax_spec (F := ((A1 ++ A2).map fun t => (t.ord : Int)) ++ [-1]) (x := -1) (by simp)
  have m0 : -1 ≤ mx := e3 (-1) (by simp)
  have m5 : mx ≤ 5 := by
    rcases List.mem_append.mp e2 with h | h
    · obtain ⟨t, mt, rfl⟩ := List.mem_map.mp h
      have := (ho t mt).2; omega
    · rw [List.mem_singleton.mp h]; omega
  obtain ⟨m, em⟩ : ∃ m : Nat, mx + 1 = (m : Int) := ⟨(mx + 1).toNat, by omega⟩
  have f0 : ((A1 ++ A2).filter fun t => decide (0 ≤ t.ord)) = A1 ++ A2 := List.filter_eq_self.mpr fun t _ => decide_eq_true (Nat.zero_le _)
  have J0 : Jn (A1 ++ A2) 0 [] [] 0 := ⟨fun t m => absurd m List.not_mem_nil, .nil, fun t m => absurd m List.not_mem_nil, by simp, by rw [f0]; exact .refl _, by rw [f0]; simp only [List.length_nil, Nat.zero_add, Nat.add_zero]⟩
  obtain ⟨F, n, y6, y7, J, lp⟩ := jn_loop k (by omega) A1 A2 lA (fun t m => ⟨(ho t m).1, by have := (ho t m).2; omega⟩) i1 i2 (some (.sh (.int mx))) m 0 [] [] 0 none none J0 (fun t mt => by
    have := e3 (t.ord : Int) (List.mem_append_left _ (List.mem_map.mpr ⟨t, mt, rfl⟩))
    omega) (by omega)
  have nf : ((A1 ++ A2).filter fun t => decide (0 + m + 1 ≤ t.ord)) = [] := by
    rw [List.filter_eq_nil_iff]
    intro t mt
    have := e3 (t.ord : Int) (List.mem_append_left _ (List.mem_map.mpr ⟨t, mt, rfl⟩))
    simp; omega
  have ky := J.ky
  have ct := J.ct
  rw [nf] at ky ct
  have ky' : (pks F).Perm (pks (A1 ++ A2)) := by simpa [pks] using ky
  simp only [List.length_nil, Nat.add_zero, List.length_append] at ct
  refine ⟨F, n, ⟨fun t mt => ⟨(J.fo t mt).1, ?_⟩, J.fi, by rw [ky'.length_eq]; exact tot⟩, ky', by omega, ?_⟩
  · have a := Bn.keys_len t (J.fo t mt).1
    have b : t.keys.length ≤ (pks F).length := (List.sublist_flatten_of_mem (List.mem_map.mpr ⟨t, mt, rfl⟩)).length_le
    rw [ky'.length_eq] at b
    have : ¬ 6 ≤ t.ord := fun c => by
      have := Nat.pow_le_pow_right (n := 2) (by decide) c
      omega
    omega
  · rw [m_joinP]
    exact run_rt 9 _ _ _ _ rfl (joinP_body _ _ A1 A2 lA m (by omega) mx n (F.map Bn.d) y6 y7 (fun t _ => E_order_of t k (by omega)) e1 (by omega) lp)
theorem lc_copied (g : List SV → R) (ps : List Bn) (h : ∀ t ∈ ps, g [.sh t.d] = ok t.d) {env : VEnv} {i : Nat} (ht : ∀ d : D, ∃ e, tgN i d env = some e ∧ e[i]? = some (some (.sh d))) : lcGo (tgN i) (vC (.bool true)) (calF 1 g [vVar i]) env (ps.map Bn.d) = some (ps.map Bn.d) := by
  refine lcGo_map Bn.d Bn.d ps fun t m => ?_
  obtain ⟨e, h1, h2⟩ := ht t.d
  have q := h t m
  refine ⟨e, h1, rfl, ?_⟩
  generalize t.d = T at *
  simp [h2, q]
theorem pile_len {ps : List Bn} (h : PileOk ps) : ps.length ≤ 40 := Nat.le_trans (pks_ge ps) h.tot
theorem po_loop (k : Nat) (hk : 3 ≤ k) (g1 : List SV → R) (a0 : Option SV) : ∀ (r : List Int) (ps : List Bn) (n : Nat) (z3 z4 : Option SV), PileOk ps → (pks ps).length + r.length ≤ 40 →
    ∃ qs m y3 y4, PileOk qs ∧ (pks qs).Perm (pks ps ++ r) ∧ qs.length + m = ps.length + r.length + n ∧ forL (tgN 3) (p_pile_of_1 g1 (m_joinP k)) (r.map .int) [a0, some (.sh (.list (ps.map Bn.d))), some (.sh (.int (n : Nat))), z3, z4] = .nx [a0, some (.sh (.list (qs.map Bn.d))), some (.sh (.int (m : Nat))), y3, y4]
  | [], ps, n, z3, z4, hp, _ => ⟨ps, n, z3, z4, hp, by simp, by simp, rfl⟩
  | x :: r, ps, n, z3, z4, hp, hl => by
    simp only [List.length_cons] at hl
    have kl : pks [Bn.leaf x] = [x] := rfl
    obtain ⟨qs, m, h1, h2, h3, h4⟩ := E_joinP ps [.leaf x] k hk (fun t mt => (List.mem_append.mp mt).elim (hp.ok t) fun z => by rw [List.mem_singleton.mp z]; exact ⟨trivial, by simp [Bn.ord]⟩) hp.inc (by simp) (by rw [pks_app, List.length_append, kl]; simp only [List.length_singleton]; omega)
    rw [pks_app, kl] at h2
    simp only [List.length_singleton] at h3
    have h4' : m_joinP k [.sh (.list (ps.map Bn.d)), .sh (.list [.tuple [.int x, .list []]])] = ok (.tuple [.list (qs.map Bn.d), .int ((m : Nat) : Int)]) := h4
    obtain ⟨rs, m2, y3, y4, j1, j2, j3, j4⟩ := po_loop k hk g1 a0 r qs (n + m) (some (.sh (.int x))) (some (.sh (.int m))) h1 (by rw [h2.length_eq, List.length_append, List.length_singleton]; omega)
    refine ⟨rs, m2, y3, y4, j1, j2.trans ?_, by simp only [List.length_cons]; omega, ?_⟩
    · refine (List.Perm.append_right r h2).trans ?_
      rw [List.append_assoc]; rfl
    · rw [List.map_cons, forL_go (env' := [a0, some (.sh (.list (ps.map Bn.d))), some (.sh (.int (n : Nat))), some (.sh (.int x)), z4]) rfl (e := [a0, some (.sh (.list (qs.map Bn.d))), some (.sh (.int ((n + m : Nat) : Int))), some (.sh (.int x)), some (.sh (.int (m : Nat)))]) (by
        generalize ps.map Bn.d = P at *
        generalize qs.map Bn.d = Q at *
        simp [p_pile_of_1, h4']), j4]
theorem E_pile_of (r : List Int) (k : Nat) (hk : 60 ≤ k) (hl : r.length ≤ 40) (hc : ∀ j, 50 ≤ j → m_check_keys j [.sh (.list (r.map .int))] = .val (.sh .none)) : ∃ ps n, PileOk ps ∧ (pks ps).Perm r ∧ ps.length + n = r.length ∧ m_pile_of k [.sh (.list (r.map .int))] = ok (.tuple [.list (ps.map Bn.d), .int ((n : Nat) : Int)]) := by
  obtain ⟨k, rfl⟩ : ∃ j, k = j + 1 := ⟨k - 1, by omega⟩
  obtain ⟨qs, m, y3, y4, j1, j2, j3, j4⟩ := po_loop k (by omega) (m_check_keys k) (some (.sh (.list (r.map .int)))) r [] 0 none none ⟨fun t m => absurd m List.not_mem_nil, .nil, by simp [pks]⟩ (by simpa [pks] using hl)
  refine ⟨qs, m, j1, by simpa [pks] using j2, by simpa using j3, ?_⟩
  have hc := hc k (by omega)
  rw [m_pile_of]
  unfold b_pile_of
  generalize p_pile_of_1 (m_check_keys k) (m_joinP k) = PP at *
  generalize r.map PyData.int = RI at *
  generalize qs.map Bn.d = Q at *
  simp only [List.map_nil] at j4
  have j5 : forL (tgN 3) PP RI [some (.sh (.list RI)), some (.sh (.list [])), some (.sh (.int 0)), none, none] = .nx [some (.sh (.list RI)), some (.sh (.list Q)), some (.sh (.int (m : Nat))), y3, y4] := j4
  simp [hc, j5]
def ones (n : Nat) : Nat := if n = 0 then 0 else n % 2 + ones (n / 2)
termination_by n
decreasing_by omega
theorem ones_zero : ones 0 = 0 := by rw [ones]; simp
theorem ones_two (n : Nat) : ones (2 * n) = ones n := by
  by_cases h : n = 0
  · rw [h]
  · rw [ones, if_neg (by omega), show 2 * n % 2 = 0 by omega, show 2 * n / 2 = n by omega, Nat.zero_add]
theorem ones_odd (n : Nat) : ones (1 + 2 * n) = 1 + ones n := by
  rw [ones, if_neg (by omega), show (1 + 2 * n) % 2 = 1 by omega, show (1 + 2 * n) / 2 = n by omega]
theorem sum_shift : ∀ L : List Nat, (∀ l ∈ L, 1 ≤ l) → (L.map (2 ^ ·)).sum = 2 * ((L.map (· - 1)).map (2 ^ ·)).sum
  | [], _ => rfl
  | l :: L, h => by
    have h1 := h l List.mem_cons_self
    have ih := sum_shift L fun x m => h x (List.mem_cons_of_mem _ m)
    obtain ⟨j, rfl⟩ : ∃ j, l = j + 1 := ⟨l - 1, by omega⟩
    simp only [List.map_cons, List.sum_cons, ih, Nat.pow_succ, Nat.add_sub_cancel]
    omega
theorem ones_sum : ∀ (m : Nat) (L : List Nat), L.Pairwise (· < ·) → (∀ l ∈ L, l < m) → ones (L.map (2 ^ ·)).sum = L.length
  | 0, [], _, _ => ones_zero
  | 0, l :: L, _, h => absurd (h l List.mem_cons_self) (by omega)
  | m + 1, L, p, h => by
    have key : ∀ L : List Nat, L.Pairwise (· < ·) → (∀ l ∈ L, 1 ≤ l ∧ l < m + 1) → ones (L.map (2 ^ ·)).sum = L.length := fun L p h => by
      rw [sum_shift L fun l ml => (h l ml).1, ones_two, ones_sum m (L.map (· - 1)) ?_ ?_, List.length_map]
      · rw [List.pairwise_map]
        exact p.imp_of_mem fun {a b} ma mb hab => by have := (h a ma).1; omega
      · intro l ml
        obtain ⟨x, mx, rfl⟩ := List.mem_map.mp ml
        have := h x mx; omega
    match L, p, h with
    | [], _, _ => exact ones_zero
    | 0 :: L, p, h =>
      have p2 := List.pairwise_cons.mp p
      have k2 := key L p2.2 fun l ml => ⟨p2.1 l ml, h l (List.mem_cons_of_mem _ ml)⟩
      have s := sum_shift L fun l ml => p2.1 l ml
      rw [s, ones_two] at k2
      simp only [List.map_cons, List.sum_cons, Nat.pow_zero, s, ones_odd, k2, List.length_cons]
      omega
    | (l + 1) :: L, p, h =>
      have p2 := List.pairwise_cons.mp p
      exact key _ p fun x mx => ⟨by
        rcases List.mem_cons.mp mx with rfl | mx
        · omega
        · have := p2.1 x mx; omega, h x mx⟩
theorem pile_ones {ps : List Bn} (h : PileOk ps) : ones (pks ps).length = ps.length := by
  rw [pks_len2 ps fun t m => (h.ok t m).1]
  have := ones_sum 6 (ps.map Bn.ord) (List.pairwise_map.mpr h.inc) fun l ml => by
    obtain ⟨t, mt, rfl⟩ := List.mem_map.mp ml
    have := (h.ok t mt).2; omega
  rw [List.length_map, List.map_map] at this
  exact this
theorem ones_go : ∀ (n v f : Nat), v < n → sWhile n p_l_ones_1 p_l_ones_2 [some (.sh (.int (v : Nat))), some (.sh (.int (f : Nat)))] = .nx [some (.sh (.int (0 : Nat))), some (.sh (.int ((f + ones v : Nat) : Int)))]
  | 0, v, f, h => absurd h (by omega)
  | n + 1, v, f, h => by
    by_cases c : v = 0
    · subst c
      rw [sWhile_end (by simp [p_l_ones_1]), ones_zero, Nat.add_zero]
    · have ih := ones_go n (v / 2) (f + v % 2) (by omega)
      have c' : (0 : Int) < (v : Int) := by omega
      rw [sWhile_go (e := [some (.sh (.int ((v / 2 : Nat) : Int))), some (.sh (.int ((f + v % 2 : Nat) : Int)))]) (by simp [p_l_ones_1]; omega) (by simp [p_l_ones_2]), ih]
      have ov : ones v = v % 2 + ones (v / 2) := by rw [ones, if_neg c]
      rw [ov, ← Nat.add_assoc]
theorem E_l_ones (k v : Nat) (h : v < 300) (hk : 1 ≤ k) : m_l_ones k [.sh (.int (v : Nat))] = ri ((ones v : Nat) : Int) := by
  obtain ⟨k, rfl⟩ : ∃ j, k = j + 1 := ⟨k - 1, by omega⟩
  have := ones_go 300 v 0 h
  rw [Nat.zero_add] at this
  have t2 : sWhile 300 p_l_ones_1 p_l_ones_2 [some (.sh (.int (v : Nat))), some (.sh (.int 0))] = .nx [some (.sh (.int (0 : Nat))), some (.sh (.int ((ones v : Nat) : Int)))] := this
  rw [m_l_ones]
  simp [b_l_ones, WF, t2]
theorem order_lc (g : List SV → R) (env : VEnv) (n : Nat) (K : Int) (hg : ∀ (o : Bn), o.ok → o.ord < n → K ≤ o.key → g [.sh o.d, .sh (.int (o.ord : Nat)), .sh (.int K)] = rb true) (he : ∀ a b : D, ∃ e, tg2 3 4 (.tuple [a, b]) env = some e ∧ e[3]? = some (some (.sh a)) ∧ e[4]? = some (some (.sh b)) ∧ e[1]? = some (some (.sh (.int (n : Nat)))) ∧ ∃ cs, e[0]? = some (some (.sh (.tuple [.int K, .list cs])))) :
    ∀ (t : Bn) (at' : Nat), t.ok → t.key = K → at' + t.ord = n → lcGo (tg2 3 4) (vC (.bool true)) (calF 3 g [vVar 4, op2 fSub (op2 fSub (vVar 1) (vC (.int 1))) (vVar 3), op2 fIx (vVar 0) (vC (.int 0))]) env (enumD at' t.cs) = some ((t.cl.map fun _ => true).map .bool)
  | .leaf x, at', _, _, _ => rfl
  | .link o t, at', h, hk, hn => by
    obtain ⟨h1, h2, h3, h4⟩ := h
    simp only [Bn.ord] at hn
    have ih := order_lc g env n K hg he t (at' + 1) h4 hk (by omega)
    have q := hg o h3 (by omega) (by simp only [Bn.key] at hk; omega)
    obtain ⟨e, e1, e2, e3, e4, cs, e5⟩ := he (.int (at' : Nat)) o.d
    have i1 : (n : Int) - 1 - (at' : Int) = (o.ord : Int) := by omega
    have v : (calF 3 g [vVar 4, op2 fSub (op2 fSub (vVar 1) (vC (.int 1))) (vVar 3), op2 fIx (vVar 0) (vC (.int 0))] e).data = some (.bool true) := by
      generalize o.d = OD at *
      simp [e2, e3, e4, e5, i1, q]
    have hd : enumD at' (Bn.link o t).cs = .tuple [.int (at' : Nat), o.d] :: enumD (at' + 1) t.cs := rfl
    rw [hd]
    simp only [lcGo, e1, v, ih, Bn.cl, vC, List.map_cons]
    rfl
theorem order_body (g1 g2 : List SV → R) (t : Bn) (ho : t.ok) (h1 : t.ord ≤ 1000) (lo : Int) (hlo : lo ≤ t.key) (hw : g1 [.sh (.int t.key)] = rb true) (hg : ∀ (o : Bn), o.ok → o.ord < t.ord → t.key ≤ o.key → g2 [.sh o.d, .sh (.int (o.ord : Nat)), .sh (.int t.key)] = rb true) :
    b_l_is_order g1 g2 [some (.sh t.d), some (.sh (.int (t.ord : Nat))), some (.sh (.int lo)), none, none] = .rt (.sh (.bool true)) := by
  have lc := order_lc g2 [some (.sh t.d), some (.sh (.int (t.ord : Nat))), some (.sh (.int lo)), none, none] t.ord t.key hg (fun a b => ⟨[some (.sh t.d), some (.sh (.int (t.ord : Nat))), some (.sh (.int lo)), some (.sh a), some (.sh b)], by simp, rfl, rfl, rfl, t.cs, rfl⟩) t 0 ho rfl (by omega)
  have cl := t.cs_len
  have el : (enumD 0 t.cs).length ≤ 1000000 := by rw [enumD_length]; omega
  have bl := blsOf_map (t.cl.map fun _ => true)
  have al : (t.cl.map fun _ => true).all id = true := by simp
  unfold b_l_is_order
  generalize (t.cl.map fun _ => true) = BS at *
  generalize calF 3 g2 [vVar 4, op2 fSub (op2 fSub (vVar 1) (vC (.int 1))) (vVar 3), op2 fIx (vVar 0) (vC (.int 0))] = CC at *
  unfold Bn.d at *
  generalize t.cs = CS at *
  have nlo : ¬ t.key < lo := by omega
  simp [hw, nlo, fNe, PyData.depth, PyData.eqv, cl, el, lc, bl, al, -List.all_eq_true]
theorem e_l_is_order : ∀ (n : Nat) (t : Bn) (k : Nat) (lo : Int), t.ok → t.ord ≤ n → t.ord + 1 < k → t.ord ≤ 1000 → lo ≤ t.key → m_l_is_order k [.sh t.d, .sh (.int (t.ord : Nat)), .sh (.int lo)] = rb true
  | n, t, k, lo, ho, hn, hk, h1, hlo => by
    obtain ⟨k, rfl⟩ : ∃ j, k = j + 2 := ⟨k - 2, by omega⟩
    rw [m_l_is_order]
    refine run_rt 5 _ _ _ _ rfl (order_body _ _ t ho h1 lo hlo (e_l_whole _ _) fun o oo ol ok' => ?_)
    match n, hn with
    | 0, hn => omega
    | n + 1, hn => exact e_l_is_order n o (k + 1) t.key oo (by omega) (by omega) (by omega) ok'
theorem allin_go (g : List SV → R) (a0 : Option SV) (n : Nat) (hg : ∀ o : Bn, o.ok → o.ord < n → g [.sh o.d] = ok (.list (o.keys.map .int))) : ∀ (t : Bn) (acc : List Int) (z : Option SV), t.ok → t.ord ≤ n → acc.length + t.ks.length ≤ 1000 → ∃ z', forL (tgN 2) (p_l_all_in_1 g) t.cs [a0, some (.sh (.list (acc.map .int))), z] = .nx [a0, some (.sh (.list ((acc ++ t.ks).map .int))), z']
  | .leaf x, acc, z, _, _, _ => ⟨z, by simp [Bn.cs, Bn.ks]⟩
  | .link o t, acc, z, h, hn, hl => by
    obtain ⟨h1, h2, h3, h4⟩ := h
    simp only [Bn.ord] at hn
    simp only [Bn.ks, List.length_append, List.length_cons] at hl
    have q := hg o h3 (by omega)
    have ol : o.keys.length = o.ks.length + 1 := rfl
    obtain ⟨z', ih⟩ := allin_go g a0 n hg t (acc ++ o.keys) (some (.sh o.d)) h4 (by omega) (by rw [List.length_append]; omega)
    refine ⟨z', ?_⟩
    have hd : (Bn.link o t).cs = o.d :: t.cs := rfl
    have l : (acc.map PyData.int).length + (o.keys.map PyData.int).length ≤ 1000000 := by rw [List.length_map, List.length_map]; omega
    have em : (acc ++ o.keys).map PyData.int = acc.map .int ++ o.keys.map .int := List.map_append
    rw [hd, forL_go (env' := [a0, some (.sh (.list (acc.map .int))), some (.sh o.d)]) rfl (e := [a0, some (.sh (.list ((acc ++ o.keys).map .int))), some (.sh o.d)]) (by
      rw [em]
      generalize acc.map PyData.int = AC at *
      generalize o.keys.map PyData.int = OK' at *
      generalize o.d = OD at *
      simp [p_l_all_in_1, q, l]), ih]
    simp only [Bn.ks, Bn.keys, List.append_assoc]
theorem e_l_all_in : ∀ (n : Nat) (t : Bn) (k : Nat), t.ok → t.ord ≤ n → t.ord < k → t.ord ≤ 6 → m_l_all_in k [.sh t.d] = ok (.list (t.keys.map .int))
  | n, t, k, ho, hn, hk, h6 => by
    obtain ⟨k, rfl⟩ : ∃ j, k = j + 1 := ⟨k - 1, by omega⟩
    have kl := t.ks_len ho
    have p6 : 2 ^ t.ord ≤ 64 := by
      have := Nat.pow_le_pow_right (n := 2) (by decide) h6
      omega
    obtain ⟨z', e⟩ := allin_go (m_l_all_in k) (some (.sh t.d)) t.ord (fun o oo ol => by
      match n, hn with
      | 0, hn => omega
      | n + 1, hn => exact e_l_all_in n o k oo (by omega) (by omega) (by omega)) t [t.key] none ho (Nat.le_refl _) (by simp only [List.length_singleton]; omega)
    rw [m_l_all_in]
    unfold b_l_all_in
    generalize p_l_all_in_1 (m_l_all_in k) = PP at *
    have ek : ([t.key] ++ t.ks).map PyData.int = t.keys.map .int := rfl
    rw [ek] at e
    have ek2 : [t.key].map PyData.int = [.int t.key] := rfl
    rw [ek2] at e
    unfold Bn.d at *
    generalize t.cs = CS at *
    generalize t.keys.map PyData.int = KD at *
    simp [e]
theorem ispile_go (g1 g2 g3 : List SV → R) (a0 a1 a2 a5 a6 : Option SV) : ∀ (ps : List Bn) (acc : List Int) (z : Option SV), (∀ t ∈ ps, g3 [.sh t.d] = ok (.list (t.keys.map .int))) → acc.length + (pks ps).length ≤ 1000 → ∃ z', forL (tgN 4) (p_l_is_pile_1 g1 g2 g3) (ps.map Bn.d) [a0, a1, a2, some (.sh (.list (acc.map .int))), z, a5, a6] = .nx [a0, a1, a2, some (.sh (.list ((acc ++ pks ps).map .int))), z', a5, a6]
  | [], acc, z, _, _ => ⟨z, by simp [pks]⟩
  | t :: ps, acc, z, h, hl => by
    rw [pks_cons, List.length_append] at hl
    have q := h t List.mem_cons_self
    obtain ⟨z', ih⟩ := ispile_go g1 g2 g3 a0 a1 a2 a5 a6 ps (acc ++ t.keys) (some (.sh t.d)) (fun x m => h x (List.mem_cons_of_mem _ m)) (by rw [List.length_append]; omega)
    refine ⟨z', ?_⟩
    have l : (acc.map PyData.int).length + (t.keys.map PyData.int).length ≤ 1000000 := by rw [List.length_map, List.length_map]; omega
    have em : (acc ++ t.keys).map PyData.int = acc.map .int ++ t.keys.map .int := List.map_append
    rw [List.map_cons, forL_go (env' := [a0, a1, a2, some (.sh (.list (acc.map .int))), some (.sh t.d), a5, a6]) rfl (e := [a0, a1, a2, some (.sh (.list ((acc ++ t.keys).map .int))), some (.sh t.d), a5, a6]) (by
      rw [em]
      generalize acc.map PyData.int = AC at *
      generalize t.keys.map PyData.int = OK' at *
      generalize t.d = OD at *
      simp [p_l_is_pile_1, q, l]), ih, pks_cons, List.append_assoc]
def nbI (f : Int → Int → Bool) : List Int → List Bool
  | [] => []
  | [_] => []
  | a :: b :: r => f a b :: nbI f (b :: r)
theorem nbI_lc (op : D → D → R) (f : Int → Int → Bool) (hf : ∀ a b, op (.int a) (.int b) = rb (f a b)) {env : VEnv} {i j : Nat} (hs : ∀ a b : D, ∃ e, tg2 i j (.tuple [a, b]) env = some e ∧ e[i]? = some (some (.sh a)) ∧ e[j]? = some (some (.sh b))) : ∀ ns : List Int, lcGo (tg2 i j) (vC (.bool true)) (op2 op (vVar i) (vVar j)) env (zipD (ns.map .int) ((ns.map .int).drop 1)) = some ((nbI f ns).map .bool)
  | [] => rfl
  | [_] => rfl
  | a :: b :: r => by
    have ih := nbI_lc op f hf hs (b :: r)
    obtain ⟨e, e1, e2, e3⟩ := hs (.int a) (.int b)
    have q := hf a b
    have hd : zipD ((a :: b :: r).map PyData.int) (((a :: b :: r).map PyData.int).drop 1) = .tuple [.int a, .int b] :: zipD ((b :: r).map .int) (((b :: r).map PyData.int).drop 1) := rfl
    rw [hd]
    have v : (op2 op (vVar i) (vVar j) e).data = some (.bool (f a b)) := by simp [e2, e3, q]
    generalize zipD ((b :: r).map PyData.int) (((b :: r).map PyData.int).drop 1) = ZZ at *
    simp only [lcGo, e1, v, ih, vC, nbI, List.map_cons]
    rfl
theorem nbI_none : ∀ {ns : List Int}, ns.Pairwise (· < ·) → (nbI (fun a b => decide (b ≤ a)) ns).any id = false
  | [], _ => rfl
  | [_], _ => rfl
  | a :: b :: r, h => by
    have h1 := List.rel_of_pairwise_cons h (List.mem_cons_self)
    have ih := nbI_none (List.Pairwise.of_cons h)
    simp only [nbI, List.any_cons, id, ih, Bool.or_false, decide_eq_false_iff_not]
    omega
theorem ispile_body (g1 g2 g3 : List SV → R) (ps : List Bn) (due : List Int) (hp : PileOk ps) (hd : srt (pks ps) = srt due) (hw : ∀ t ∈ ps, g1 [.sh (.int t.key)] = rb true) (ho : ∀ t ∈ ps, g2 [.sh t.d, .sh (.int (t.ord : Nat)), .sh (.int t.key)] = rb true) (hk : ∀ t ∈ ps, g3 [.sh t.d] = ok (.list (t.keys.map .int))) :
    b_l_is_pile g1 g2 g3 [some (.sh (.list (ps.map Bn.d))), some (.sh (.list (due.map .int))), none, none, none, none, none] = .rt (.sh (.bool true)) := by
  have ln := pile_len hp
  have l6 : (ps.map Bn.d).length ≤ 1000000 := by rw [List.length_map]; omega
  have b1 : (ps.map fun _ => PyData.bool true) = (ps.map fun _ => true).map .bool := by rw [List.map_map]; rfl
  have bl := blsOf_map (ps.map fun _ => true)
  have al : (ps.map fun _ => true).all id = true := by simp
  have lcA := lcGo_map (t := tgN 4) (c := vC (.bool true)) (e := vAnd (op1 (fun d => rb (isTup d)) (vVar 4)) (op2 fEq (cal1 fLen (vVar 4)) (vC (.int 2)))) (env := [some (.sh (.list (ps.map Bn.d))), some (.sh (.list (due.map .int))), none, none, none, none, none]) Bn.d (fun _ => .bool true) ps fun t _ => ⟨[some (.sh (.list (ps.map Bn.d))), some (.sh (.list (due.map .int))), none, none, some (.sh t.d), none, none], rfl, rfl, by simp [Bn.d, fEq, PyData.depth, PyData.eqv]⟩
  have lcB := lcGo_map (t := tgN 4) (c := vC (.bool true)) (e := op1 (fun d => rb (isList d)) (op2 fIx (vVar 4) (vC (.int 1)))) (env := [some (.sh (.list (ps.map Bn.d))), some (.sh (.list (due.map .int))), none, none, none, none, none]) Bn.d (fun _ => .bool true) ps fun t _ => ⟨[some (.sh (.list (ps.map Bn.d))), some (.sh (.list (due.map .int))), none, none, some (.sh t.d), none, none], rfl, rfl, by simp [Bn.d]⟩
  have lcC := lcGo_map (t := tgN 4) (c := vC (.bool true)) (e := cal1 fLen (op2 fIx (vVar 4) (vC (.int 1)))) (env := [some (.sh (.list (ps.map Bn.d))), some (.sh (.list (due.map .int))), none, none, none, none, none]) Bn.d (fun t => .int (t.ord : Nat)) ps fun t _ => ⟨[some (.sh (.list (ps.map Bn.d))), some (.sh (.list (due.map .int))), none, none, some (.sh t.d), none, none], rfl, rfl, by
    have := t.cs_len
    unfold Bn.d
    generalize t.cs = CS at *
    simp [this]⟩
  have eo : ps.map (fun t => PyData.int (t.ord : Nat)) = (ps.map fun t => (t.ord : Int)).map .int := by rw [List.map_map]; rfl
  rw [b1] at lcA lcB
  rw [eo] at lcC
  have lcE := lcGo_map (t := tgN 4) (c := vC (.bool true)) (e := vAnd (calF 1 g1 [op2 fIx (vVar 4) (vC (.int 0))]) (calF 3 g2 [vVar 4, cal1 fLen (op2 fIx (vVar 4) (vC (.int 1))), op2 fIx (vVar 4) (vC (.int 0))])) (env := [some (.sh (.list (ps.map Bn.d))), some (.sh (.list (due.map .int))), some (.sh (.list ((ps.map fun t => (t.ord : Int)).map .int))), none, none, none, none]) Bn.d (fun _ => .bool true) ps fun t mt => ⟨[some (.sh (.list (ps.map Bn.d))), some (.sh (.list (due.map .int))), some (.sh (.list ((ps.map fun t => (t.ord : Int)).map .int))), none, some (.sh t.d), none, none], rfl, rfl, by
    have q1 := hw t mt
    have q2 := ho t mt
    have := t.cs_len
    unfold Bn.d at *
    generalize t.cs = CS at *
    simp [this, q1, q2]⟩
  rw [b1] at lcE
  have lcD := nbI_lc fGe (fun a b => decide (b ≤ a)) (fun a b => by simp [fGe]) (env := [some (.sh (.list (ps.map Bn.d))), some (.sh (.list (due.map .int))), some (.sh (.list ((ps.map fun t => (t.ord : Int)).map .int))), none, none, none, none]) (i := 5) (j := 6) (fun a b => ⟨[some (.sh (.list (ps.map Bn.d))), some (.sh (.list (due.map .int))), some (.sh (.list ((ps.map fun t => (t.ord : Int)).map .int))), none, none, some (.sh a), some (.sh b)], by simp, rfl, rfl⟩) (ps.map fun t => (t.ord : Int))
  have nn := nbI_none (ns := ps.map fun t => (t.ord : Int)) (List.pairwise_map.mpr (hp.inc.imp fun h => by omega))
  have bl2 := blsOf_map (nbI (fun a b => decide (b ≤ a)) (ps.map fun t => (t.ord : Int)))
  obtain ⟨mx, x1, x2, x3⟩ := lmax_spec (F := (ps.map fun t => (t.ord : Int)) ++ [0]) (x := 0) (by simp)
  have mx9 : ¬ (9 : Int) < mx := by
    rcases List.mem_append.mp x2 with h | h
    · obtain ⟨t, mt, rfl⟩ := List.mem_map.mp h
      have := (hp.ok t mt).2; omega
    · rw [List.mem_singleton.mp h]; omega
  have io := intsOf_map ((ps.map fun t => (t.ord : Int)) ++ [0])
  have eI : ((ps.map fun t : Bn => (t.ord : Int)) ++ [0]).map PyData.int = (ps.map fun t : Bn => (t.ord : Int)).map PyData.int ++ [.int 0] := by rw [List.map_append]; rfl
  rw [eI] at io
  have lO : ((ps.map fun t => (t.ord : Int)).map PyData.int).length + 1 ≤ 1000000 := by rw [List.length_map, List.length_map]; omega
  have lz : (zipD ((ps.map fun t => (t.ord : Int)).map PyData.int) (((ps.map fun t => (t.ord : Int)).map PyData.int).drop 1)).length ≤ 1000000 := by
    unfold zipD; rw [List.length_zipWith, List.length_map, List.length_map]; omega
  obtain ⟨z', lp⟩ := ispile_go g1 g2 g3 (some (.sh (.list (ps.map Bn.d)))) (some (.sh (.list (due.map .int)))) (some (.sh (.list ((ps.map fun t => (t.ord : Int)).map .int)))) none none ps [] none hk (by simp only [List.length_nil]; have := hp.tot; omega)
  rw [List.nil_append, List.map_nil] at lp
  have i1 := intsOf_map (pks ps)
  have i2 := intsOf_map due
  have fe : fEq (.list ((srt due).map .int)) (.list ((srt due).map .int)) = rb true := by
    unfold fEq
    rw [if_pos (by simp only [PyData.depth, depth_ints]; omega)]
    simp only [PyData.eqv, eqv_ints_refl]
  unfold b_l_is_pile
  generalize hBS : (ps.map fun _ => true) = BS at *
  generalize (nbI (fun a b => decide (b ≤ a)) (ps.map fun t => (t.ord : Int))) = NB at *
  generalize (ps.map fun t => (t.ord : Int)).map PyData.int = OD at *
  generalize (ps.map fun t => (t.ord : Int)) ++ [0] = OI at *
  generalize ps.map Bn.d = PD at *
  generalize (pks ps).map PyData.int = KD at *
  generalize hsd : (srt due).map PyData.int = SD at *
  generalize due.map PyData.int = DD at *
  generalize p_l_is_pile_1 g1 g2 g3 = PP at *
  refine (seq_nx (e := [some (.sh (.list PD)), some (.sh (.list DD)), none, none, none, none, none]) ?_).trans ?_
  · generalize vAnd (op1 (fun d => rb (isTup d)) (vVar 4)) (op2 fEq (cal1 fLen (vVar 4)) (vC (.int 2))) = CC at *
    simp [l6, lcA, bl, al, -List.all_eq_true]
  refine (seq_nx (e := [some (.sh (.list PD)), some (.sh (.list DD)), none, none, none, none, none]) ?_).trans ?_
  · generalize op1 (fun d => rb (isList d)) (op2 fIx (vVar 4) (vC (.int 1))) = CC at *
    simp [l6, lcB, bl, al, -List.all_eq_true]
  refine (seq_nx (e := [some (.sh (.list PD)), some (.sh (.list DD)), some (.sh (.list OD)), none, none, none, none]) ?_).trans ?_
  · generalize cal1 fLen (op2 fIx (vVar 4) (vC (.int 1))) = CC at *
    simp [l6, lcC]
  refine (seq_nx (e := [some (.sh (.list PD)), some (.sh (.list DD)), some (.sh (.list OD)), none, none, none, none]) ?_).trans ?_
  · generalize op2 fGe (vVar 5) (vVar 6) = CC at *
    rw [List.drop_one] at lcD lz
    simp [lcD, lz, bl2, nn, lO, io, x1, mx9, -List.any_eq_true, -List.any_eq_false]
  refine (seq_nx (e := [some (.sh (.list PD)), some (.sh (.list DD)), some (.sh (.list OD)), none, none, none, none]) ?_).trans ?_
  · generalize vAnd (calF 1 g1 [op2 fIx (vVar 4) (vC (.int 0))]) (calF 3 g2 [vVar 4, cal1 fLen (op2 fIx (vVar 4) (vC (.int 1))), op2 fIx (vVar 4) (vC (.int 0))]) = CC at *
    simp [l6, lcE, bl, al, -List.all_eq_true]
  refine (seq_nx (e := [some (.sh (.list PD)), some (.sh (.list DD)), some (.sh (.list OD)), some (.sh (.list [])), none, none, none]) ?_).trans ?_
  · simp
  refine (seq_nx (e := [some (.sh (.list PD)), some (.sh (.list DD)), some (.sh (.list OD)), some (.sh (.list KD)), z', none, none]) ?_).trans ?_
  · simp [lp]
  · simp [i1, i2, hd, hsd, fe]
theorem E_l_is_pile (ps : List Bn) (due : List Int) (k : Nat) (hk : 30 ≤ k) (hp : PileOk ps) (hd : (pks ps).Perm due) : m_l_is_pile k [.sh (.list (ps.map Bn.d)), .sh (.list (due.map .int))] = rb true := by
  obtain ⟨k, rfl⟩ : ∃ j, k = j + 2 := ⟨k - 2, by omega⟩
  rw [m_l_is_pile]
  exact run_rt 7 _ _ _ _ rfl (ispile_body _ _ _ ps due hp (srt_congr hd) (fun t _ => e_l_whole _ _) (fun t m => e_l_is_order 5 t _ _ (hp.ok t m).1 (hp.ok t m).2 (by have := (hp.ok t m).2; omega) (by have := (hp.ok t m).2; omega) (Int.le_refl _)) (fun t m => e_l_all_in 5 t _ (hp.ok t m).1 (hp.ok t m).2 (by have := (hp.ok t m).2; omega) (by have := (hp.ok t m).2; omega)))
theorem E_check_keys (r : List Int) (k : Nat) (h : r.length ≤ 40) (hk : 2 ≤ k) : m_check_keys k [.sh (.list (r.map .int))] = .val (.sh .none) := by
  obtain ⟨k, rfl⟩ : ∃ j, k = j + 2 := ⟨k - 2, by omega⟩
  exact e_check_keys r k h
theorem pp_body (g1 g2 g3 g4 g5 : List SV → R) (ps : List Bn) (x : Int) (n1 : Nat) (rd : D) (h40 : n1 + 1 ≤ 40) (lp : ps.length ≤ 1000) (a1 : g1 [.sh (.list (ps.map Bn.d))] = .val (.sh .none)) (a2 : g2 [.sh (.int x)] = .val (.sh .none)) (b1 : g3 [.sh (.list (ps.map Bn.d))] = ri (n1 : Nat)) (c1 : ∀ t ∈ ps, g4 [.sh t.d] = ok t.d) (d1 : g5 [.sh (.list (ps.map Bn.d)), .sh (.list [.tuple [.int x, .list []]])] = ok rd) :
    b_pile_put g1 g2 g3 g4 g5 [some (.sh (.list (ps.map Bn.d))), some (.sh (.int x)), none] = .rt (.sh rd) := by
  have e1 := lc_copied g4 ps c1 (env := [some (.sh (.list (ps.map Bn.d))), some (.sh (.int x)), none]) (i := 2) fun d => ⟨[some (.sh (.list (ps.map Bn.d))), some (.sh (.int x)), some (.sh d)], rfl, rfl⟩
  have l1 : (ps.map Bn.d).length ≤ 1000000 := by rw [List.length_map]; omega
  have c : ¬ (40 : Int) < (n1 : Int) + 1 := by omega
  unfold b_pile_put
  generalize ps.map Bn.d = P at *
  generalize calF 1 g4 [vVar 2] = CC at *
  simp [a1, a2, b1, c, e1, l1, d1]
theorem E_pile_put (ps : List Bn) (x : Int) (k : Nat) (hk : 60 ≤ k) (hp : PileOk ps) (ht : (pks ps).length + 1 ≤ 40) : ∃ rs n, PileOk rs ∧ (pks rs).Perm (x :: pks ps) ∧ rs.length + n = ps.length + 1 ∧ m_pile_put k [.sh (.list (ps.map Bn.d)), .sh (.int x)] = ok (.tuple [.list (rs.map Bn.d), .int ((n : Nat) : Int)]) := by
  obtain ⟨k, rfl⟩ : ∃ j, k = j + 2 := ⟨k - 2, by omega⟩
  have l1 := pile_len hp
  have kl : pks [Bn.leaf x] = [x] := rfl
  obtain ⟨qs, m, h1, h2, h3, h4⟩ := E_joinP ps [.leaf x] (k + 1) (by omega) (fun t mt => (List.mem_append.mp mt).elim (hp.ok t) fun z => by rw [List.mem_singleton.mp z]; exact ⟨trivial, by simp [Bn.ord]⟩) hp.inc (by simp) (by rw [pks_app, List.length_append, kl]; simp only [List.length_singleton]; omega)
  rw [pks_app, kl] at h2
  simp only [List.length_singleton] at h3
  have h4' : m_joinP (k + 1) [.sh (.list (ps.map Bn.d)), .sh (.list [.tuple [.int x, .list []]])] = ok (.tuple [.list (qs.map Bn.d), .int ((m : Nat) : Int)]) := h4
  have ck : m_check_key (k + 1) [.sh (.int x)] = .val (.sh .none) := by
    cases k with
    | zero => omega
    | succ j =>
      have := e_is_key j x
      rw [m_check_key]
      simp [b_check_key, this]
  refine ⟨qs, m, h1, h2.trans List.perm_append_comm, h3, ?_⟩
  rw [m_pile_put]
  exact run_rt 3 _ _ _ _ rfl (pp_body _ _ _ _ _ ps x (pks ps).length _ ht (by omega) (E_check_pile ps (k + 1) (by omega) hp) ck (e_count_of ps (k + 1) (by omega) (by omega) hp.ok) (fun t m => e_copied 5 t (k + 1) (hp.ok t m).1 (hp.ok t m).2 (by have := (hp.ok t m).2; omega) (by have := (hp.ok t m).2; omega)) h4')
theorem ix_tup {f : FE} {env : VEnv} {ds : List D} {k : Int} {x : D} (h : f env = ok (.tuple ds)) (hx : atI ds k = some x) : op2 fIx f (vC (.int k)) env = .val (.sh x) := by
  simp only [op2, h, ok, R.d, vC, fIx, hx]
structure Tri where
  L : Tr
  T : Tr
  P : List Bn
structure TriOk (x : Tri) (l : List Int) : Prop where
  lh : x.L.heap = true
  ll : x.L.leans = true
  lr : srt x.L.row = l
  th : x.T.heap = true
  tr : srt x.T.row = l
  pk : PileOk x.P
  pr : srt (pks x.P) = l
abbrev Tri.p (x : Tri) : D := .list (x.P.map Bn.d)
theorem srt_len (l : List Int) : (srt l).length = l.length := (srt_perm l).length_eq
theorem TriOk.ps {x : Tri} {l : List Int} (h : TriOk x l) : (pks x.P).length = l.length := by rw [← srt_len, h.pr]
theorem order_tr (k : Nat) : ∀ d : D, trB d = true → m_order_of (k + 1) [.sh d] = ri (ordD d : Nat) := by
  intro d h
  obtain ⟨i, ds, rfl, _, _⟩ := tr_inv h
  simp [m_order_of, b_order_of, ordD, at1D]
theorem lc_ordT (c : List SV → R) (hO : ∀ d : D, trB d = true → c [.sh d] = ri (ordD d : Nat)) (env : VEnv) (he : env.length = 9) : ∀ ds : List D, trsB ds = true → lcGo (tgN 8) (vC (.bool true)) (calF 1 c [vVar 8]) env ds = some ((ds.map fun d => (ordD d : Int)).map .int)
  | [], _ => rfl
  | d :: ds, h => by
    rw [trsB, Bool.and_eq_true] at h
    have := lc_ordT c hO env he ds h.2
    simp only [lcGo, tgN, List.map_cons]
    simp [he, hO d h.1, this]
theorem trs_appT : ∀ {a b : List D}, trsB a = true → trsB b = true → trsB (a ++ b) = true
  | [], b, _, h => h
  | d :: a, b, h, h2 => by
    rw [trsB, Bool.and_eq_true] at h
    rw [List.cons_append, trsB, Bool.and_eq_true]
    exact ⟨h.1, trs_appT h.2 h2⟩
theorem high_tr (k : Nat) (ds1 ds2 : List D) (h1 : trsB ds1 = true) (h2 : trsB ds2 = true) (l1 : ds1.length ≤ 100) (l2 : ds2.length ≤ 100) (ho : ∀ d ∈ ds1 ++ ds2, ordD d ≤ 1000) :
    ∃ h : Int, -1 ≤ h ∧ h ≤ 1000 ∧ fHigh (m_order_of (k + 1)) [some (.sh (.list ds1)), some (.sh (.list ds2)), none, none, none, none, none, none, none] = ri h := by
  have hl := lc_ordT (m_order_of (k + 1)) (order_tr k) [some (.sh (.list ds1)), some (.sh (.list ds2)), none, none, none, none, none, none, none] rfl (ds1 ++ ds2) (trs_appT h1 h2)
  generalize hF : (ds1 ++ ds2).map (fun d => (ordD d : Int)) = F at hl
  obtain ⟨m, e, mm, le⟩ := lmax_spec (F := F ++ [-1]) (x := -1) (by simp)
  refine ⟨m, le (-1) (by simp), ?_, ?_⟩
  · rcases List.mem_append.mp mm with z | z
    · rw [← hF] at z
      obtain ⟨d, md, rfl⟩ := List.mem_map.mp z
      have := ho d md
      omega
    · simp at z; omega
  · have io := intsOf_map (F ++ [-1])
    have eI : (F ++ [-1]).map PyData.int = F.map PyData.int ++ [.int (-1)] := by rw [List.map_append]; rfl
    have l0 : ds1.length + ds2.length ≤ 1000000 := by omega
    have l1 : (F.map PyData.int).length + 1 ≤ 1000000 := by rw [← hF, List.length_map, List.length_map, List.length_append]; omega
    rw [eI] at io
    generalize F.map PyData.int = OD at *
    generalize F ++ [-1] = OI at *
    generalize m_order_of (k + 1) = c at hl ⊢
    unfold fHigh
    simp only [op2, vVar, vC, vLc, itD, iL, calF, evA, cal1] at hl ⊢
    simp [hl, l0, l1, io, e]
theorem trB_d (t : Bn) : trB t.d = (decide (t.cs.length ≤ 20000) && trsB t.cs) := trB_tup
theorem bn_trs : ∀ t : Bn, t.ok → t.ord ≤ 20000 → trsB t.cs = true
  | .leaf _, _, _ => by rw [Bn.cs, trsB]
  | .link o t, h, l => by
    obtain ⟨h1, _, h3, h4⟩ := h
    simp only [Bn.ord] at l
    rw [Bn.cs, trsB, trB_tup, bn_trs o h3 (by omega), bn_trs t h4 (by omega), o.cs_len]
    have : o.ord ≤ 20000 := by omega
    simp [this]
theorem bn_tr (t : Bn) (h : t.ok) (l : t.ord ≤ 20000) : trB t.d = true := by
  rw [trB_d, bn_trs t h l, t.cs_len]
  simp [l]
theorem bns_tr : ∀ {ps : List Bn}, (∀ t ∈ ps, t.ok ∧ t.ord ≤ 20000) → trsB (ps.map Bn.d) = true
  | [], _ => by rw [List.map_nil, trsB]
  | t :: ps, h => by
    rw [List.map_cons, trsB, bn_tr t (h t List.mem_cons_self).1 (h t List.mem_cons_self).2, bns_tr fun u m => h u (List.mem_cons_of_mem _ m)]
    rfl
theorem ordD_d (t : Bn) : ordD t.d = t.ord := by rw [Bn.d, ordD, t.cs_len]
theorem tdeps_bn : ∀ t : Bn, t.ok → tdeps t.cs ≤ t.ord
  | .leaf _, _ => by rw [Bn.cs, tdeps]; exact Nat.zero_le _
  | .link o t, h => by
    obtain ⟨h1, _, h3, h4⟩ := h
    have a := tdeps_bn o h3
    have b := tdeps_bn t h4
    rw [Bn.cs, tdeps, tdep_tup]
    simp only [Bn.ord]
    omega
theorem tdep_d (t : Bn) (h : t.ok) : tdep t.d ≤ t.ord + 1 := by
  have := tdeps_bn t h
  rw [Bn.d, tdep_tup]; omega
theorem tdeps_bns : ∀ {ps : List Bn} {n : Nat}, (∀ t ∈ ps, t.ok ∧ t.ord + 1 ≤ n) → tdeps (ps.map Bn.d) ≤ n
  | [], _, _ => by rw [List.map_nil, tdeps]; exact Nat.zero_le _
  | t :: ps, n, h => by
    have a := tdep_d t (h t List.mem_cons_self).1
    have b := (h t List.mem_cons_self).2
    have c := tdeps_bns (n := n) fun u m => h u (List.mem_cons_of_mem _ m)
    rw [List.map_cons, tdeps]; omega
theorem plOk_of {ps : List Bn} {k : Nat} (h : PileOk ps) (hk : 6 ≤ k) : PlOk k (ps.map Bn.d) where
  tr := bns_tr fun t m => ⟨(h.ok t m).1, by have := (h.ok t m).2; omega⟩
  ln := by have := pile_len h; rw [List.length_map]; omega
  od := fun d m => by
    obtain ⟨t, mt, rfl⟩ := List.mem_map.mp m
    rw [ordD_d]; have := (h.ok t mt).2; omega
  ki := fun d m e me => by
    obtain ⟨t, mt, rfl⟩ := List.mem_map.mp m
    rw [Bn.d, kidsD, t.cs_cl] at me
    obtain ⟨o, mo, rfl⟩ := List.mem_map.mp me
    have := (t.cl_ok (h.ok t mt).1 o mo).2
    have := (h.ok t mt).2
    rw [ordD_d]; omega
  dp := tdeps_bns fun t m => ⟨(h.ok t m).1, by have := (h.ok t m).2; omega⟩
theorem deep_fzv (d : D) : (deepR d).fzv = some (.sh d) := RD.fzv_of (deepR_toD d)
theorem bn_nls : ∀ t : Bn, RD.nls (deepRs t.cs) = true
  | .leaf _ => by simp [Bn.cs, deepRs]
  | .link o t => by simp [Bn.cs, deepRs, deepR, bn_nls o, bn_nls t]
theorem bn_nl (t : Bn) : (deepR t.d).nl = true := by simp [Bn.d, deepR, deepRs, bn_nls t]
theorem bns_nl : ∀ ps : List Bn, RD.nls (deepRs (ps.map Bn.d)) = true
  | [] => by simp [deepRs]
  | t :: ps => by simp only [List.map_cons, deepRs, RD.nls, bn_nl t, bns_nl ps, Bool.and_self]
theorem deepRs_len : ∀ ds : List D, (deepRs ds).length = ds.length
  | [] => rfl
  | d :: ds => by rw [deepRs, List.length_cons, List.length_cons, deepRs_len ds]
theorem if_tr {f : FE} {a b : FS} {env : VEnv} {r : SR} (h : f env = rb true) (q : a env = r) : sIf f a b env = r := by simp [h, q]
theorem pileOk_erase {ps : List Bn} (h : PileOk ps) (i : Nat) : PileOk (ps.eraseIdx i) := by
  have sb : (ps.eraseIdx i).Sublist ps := List.eraseIdx_sublist ..
  refine ⟨fun t m => h.ok t (sb.subset m), h.inc.sublist sb, ?_⟩
  have : (pks (ps.eraseIdx i)).length ≤ (pks ps).length := pks_sub sb
  have := h.tot
  omega
theorem pks_erase_le (ps : List Bn) (i : Nat) : (pks (ps.eraseIdx i)).length ≤ (pks ps).length := pks_sub (List.eraseIdx_sublist ..)
theorem wide15 {by' : Int} (h : by' = 0 ∨ by' = 4 ∨ by' = 8) : ∃ wi : Int, 0 < wi ∧ wi ≤ 100000000000000000000 ∧ atI [PyData.int 4, .int 90, .int 100000000000000000000] (by' / 4 % 3) = some (.int wi) := by
  rcases h with rfl | rfl | rfl
  · exact ⟨4, by decide, by decide, rfl⟩
  · exact ⟨90, by decide, by decide, rfl⟩
  · exact ⟨100000000000000000000, by decide, by decide, rfl⟩
theorem E_check_key (x : Int) (k : Nat) (hk : 2 ≤ k) : m_check_key k [.sh (.int x)] = .val (.sh .none) := by
  obtain ⟨k, rfl⟩ : ∃ j, k = j + 2 := ⟨k - 2, by omega⟩
  have := e_is_key k x
  rw [m_check_key]
  simp [b_check_key, this]
theorem E_R_pile_put (ps : List Bn) (x : Int) (k : Nat) (hk : 70 ≤ k) (hp : PileOk ps) (ht : (pks ps).length + 1 ≤ 40) : ∃ rs n, PileOk rs ∧ (pks rs).Perm (x :: pks ps) ∧ rs.length + n = ps.length + 1 ∧ m_pile_put k [.sh (.list (ps.map Bn.d)), .sh (.int x)] = ok (.tuple [.list (rs.map Bn.d), .int ((n : Nat) : Int)]) ∧ m_R_pile_put k [.sh (.list (ps.map Bn.d)), .sh (.int x)] = .val (.rg (deepR (.tuple [.list (rs.map Bn.d), .int ((n : Nat) : Int)]))) := by
  obtain ⟨rs, n, h1, h2, h3, h4⟩ := E_pile_put ps x k (by omega) hp ht
  refine ⟨rs, n, h1, h2, h3, h4, ?_⟩
  obtain ⟨k, rfl⟩ : ∃ j, k = j + 3 := ⟨k - 3, by omega⟩
  rw [m_R_pile_put]
  refine mRg_ok ⟨_, _, rfl, plOk_of hp (by omega), ⟨_, E_check_pile ps _ (by omega) hp⟩, ⟨_, E_check_key x _ (by omega)⟩, _, e_count_of ps _ (by omega) (by have := pile_len hp; omega) hp.ok, by omega⟩ ?_
  rw [h4]
  rfl
theorem po_states (k : Nat) (hk : 3 ≤ k) : ∀ (r : List Int) (ps : List Bn), PileOk ps → (pks ps).length + r.length ≤ 40 → ∃ st : Nat → List D, st 0 = ps.map Bn.d ∧ ∀ i ky, r[i]? = some ky → (st i).length ≤ 100 ∧ (∀ d ∈ st i, ordD d ≤ 1000) ∧ ∃ n, (m_joinP k [.sh (.list (st i)), .sh (.list [.tuple [.int ky, .list []]])]).data = some (.tuple [.list (st (i + 1)), .int n])
  | [], ps, _, _ => ⟨fun _ => ps.map Bn.d, rfl, fun i ky e => by simp at e⟩
  | x :: r, ps, hp, ht => by
    have kl : pks [Bn.leaf x] = [x] := rfl
    rw [List.length_cons] at ht
    obtain ⟨qs, m, h1, h2, h3, h4⟩ := E_joinP ps [.leaf x] k hk (fun t mt => (List.mem_append.mp mt).elim (hp.ok t) fun z => by rw [List.mem_singleton.mp z]; exact ⟨trivial, by simp [Bn.ord]⟩) hp.inc (by simp) (by rw [pks_app, List.length_append, kl]; simp only [List.length_singleton]; omega)
    have hl := h2.length_eq
    rw [pks_app, kl, List.length_append, List.length_singleton] at hl
    obtain ⟨st, s0, s1⟩ := po_states k hk r qs h1 (by omega)
    refine ⟨fun i => match i with | 0 => ps.map Bn.d | i + 1 => st i, rfl, fun i ky e => ?_⟩
    cases i with
    | zero =>
      simp at e
      subst e
      refine ⟨by have := pile_len hp; show (ps.map Bn.d).length ≤ 100; rw [List.length_map]; omega, fun d md => ?_, m, ?_⟩
      · obtain ⟨t, mt, rfl⟩ := List.mem_map.mp md
        rw [ordD_d]; have := (hp.ok t mt).2; omega
      · have h4' : m_joinP k [.sh (.list (ps.map Bn.d)), .sh (.list [.tuple [.int x, .list []]])] = ok (.tuple [.list (qs.map Bn.d), .int ((m : Nat) : Int)]) := h4
        show (m_joinP k [.sh (.list (ps.map Bn.d)), .sh (.list [.tuple [.int x, .list []]])]).data = some (.tuple [.list (st 0), .int m])
        rw [h4', s0]
        rfl
    | succ i =>
      simp at e
      exact s1 i ky e
theorem pileOk_nil : PileOk [] := ⟨(fun _ m => nomatch m), .nil, by simp [pks]⟩
theorem E_R_pile_of (r : List Int) (k : Nat) (hk : 70 ≤ k) (hl : r.length ≤ 40) : ∃ ps n, PileOk ps ∧ (pks ps).Perm r ∧ ps.length + n = r.length ∧ m_pile_of k [.sh (.list (r.map .int))] = ok (.tuple [.list (ps.map Bn.d), .int ((n : Nat) : Int)]) ∧ m_R_pile_of k [.sh (.list (r.map .int))] = .val (.rg (deepR (.tuple [.list (ps.map Bn.d), .int ((n : Nat) : Int)]))) := by
  obtain ⟨ps, n, h1, h2, h3, h4⟩ := E_pile_of r k (by omega) hl fun j hj => E_check_keys r j hl (by omega)
  refine ⟨ps, n, h1, h2, h3, h4, ?_⟩
  obtain ⟨k, rfl⟩ : ∃ j, k = j + 3 := ⟨k - 3, by omega⟩
  obtain ⟨st, s0, s1⟩ := po_states (k + 2) (by omega) r [] pileOk_nil (by simpa [pks] using hl)
  rw [m_R_pile_of]
  refine mRg_ok ⟨r, rfl, hl, ⟨_, E_check_keys r _ hl (by omega)⟩, st, by simpa using s0, s1⟩ ?_
  rw [h4]
  rfl
theorem erase_perm : ∀ {l : List Int} {j : Nat} {x : Int}, l[j]? = some x → l.Perm (x :: l.eraseIdx j)
  | [], j, x, h => by simp at h
  | y :: l, 0, x, h => by simp at h; subst h; exact .refl _
  | y :: l, j + 1, x, h => by
    simp at h
    rw [List.eraseIdx_cons_succ]
    exact ((erase_perm h).cons y).trans (.swap ..)
theorem rem_loop (g1 g2 g3 g4 g5 g7 g8 g9 g10 : List SV → R) (c : Nat) (a0 a1 a2 a3 a4 a5 a6 a7 a8 a9 a12 : Option SV) : ∀ (gone : List Int) (acc rest0 : List Int) (z : Option SV), acc.Perm (gone ++ rest0) → isRg z = false →
    ∃ (rest : List Int) (y : Option SV), rest.Perm rest0 ∧ isRg y = false ∧ forL (tgN 11) (p_l_right_k16_1 g1 g2 g3 g4 g5 c g7 g8 g9 g10) (gone.map .int) [a0, a1, a2, a3, a4, a5, a6, a7, a8, a9, some (.ow (acc.map .int)), z, a12] = .nx [a0, a1, a2, a3, a4, a5, a6, a7, a8, a9, some (.ow (rest.map .int)), y, a12]
  | [], acc, rest0, z, h, nz => ⟨acc, z, h, nz, rfl⟩
  | g :: gone, acc, rest0, z, h, nz => by
    obtain ⟨j, hj⟩ := idxOf_mem (ns := acc) (y := g) (h.symm.subset List.mem_cons_self)
    have pe := erase_perm (idxOf_spec hj).1
    obtain ⟨rest, y, h1, h2, h3⟩ := rem_loop g1 g2 g3 g4 g5 g7 g8 g9 g10 c a0 a1 a2 a3 a4 a5 a6 a7 a8 a9 a12 gone (acc.eraseIdx j) rest0 (some (.sh (.int g))) ((pe.symm.trans h).cons_inv) rfl
    refine ⟨rest, y, h1, h2, ?_⟩
    rw [← h3, List.map_cons]
    refine forL_go (env' := [a0, a1, a2, a3, a4, a5, a6, a7, a8, a9, some (.ow (acc.map .int)), some (.sh (.int g)), a12]) rfl ?_
    have io := intsOf_map acc
    generalize acc.map PyData.int = AA at *
    simp [p_l_right_k16_1, sRem, io, hj]
theorem rp_step (gS gP gW gI gO gRP gA gRO gPO : List SV → R) (c : Nat) (RR P Q RT : List D) (tot n a b : Int) (at' : Nat) (key : Int) (rt : List Int) (z5 z6 z7 z8 z9 z10 z11 : Option SV) (nr : noRg [z8, z9, z10, z11] = true)
    (hS : gS [.sh (.list P)] = .val (.ow P)) (hP : gP [.sh (.list P), .sh (.int key)] = ok (.tuple [.list Q, .int n])) (hW : gW [.sh (.int n)] = rb true) (hN : fNe (.list P) (.list P) = rb false) (hI : gI [.sh (.list Q), .sh (.list (rt.map .int))] = rb true) (hT : RR.take (at' + 1) = rt.map .int)
    (o1 : gO [.sh (.int (at' : Nat))] = ri a) (o2 : gO [.sh (.int ((at' : Int) + 1))] = ri b) (en : n = 1 + a - b) (hRP : gRP [.sh (.list P), .sh (.int key)] = .val (.rg (deepR (.tuple [.list Q, .int n])))) (ht : trsB Q = true) (hd : tdeps Q ≤ c)
    (tl : at' % 6 = 5 → ∃ (Q2 Q3 : List D) (n2 n3 : Int) (q0 : D) (gone rest0 : List Int), gS [.sh (.list Q)] = .val (.ow Q) ∧ gRP [.sh (.list Q), .sh (.int key)] = .val (.rg (deepR (.tuple [.list Q2, .int n2]))) ∧ RD.nls (deepRs Q2) = true ∧ Q[0]? = some q0 ∧ Q.length ≤ 1000 ∧ gA [.sh q0] = ok (.list (gone.map .int)) ∧ rt.Perm (gone ++ rest0) ∧ rest0.length ≤ 1000 ∧
      gP [.sh (.list (Q.eraseIdx 0)), .sh (.int key)] = ok (.tuple [.list Q3, .int n3]) ∧ ∀ rest : List Int, rest.Perm rest0 → gI [.sh (.list Q3), .sh (.list ((rest ++ [key]).map .int))] = rb true) :
    ∃ y5 y6 y7 y8 y9 y10 y11, noRg [y5, y7, y8, y9, y10, y11] = true ∧ p_l_right_k16_2 gS gP gW gI gO c gRP gA gRO gPO [some (.sh (.list RR)), some (.sh (.list P)), some (.sh (.int tot)), some (.sh (.int (at' : Nat))), some (.sh (.int key)), z5, z6, z7, z8, z9, z10, z11, none] = .nx [some (.sh (.list RR)), some (.sh (.list Q)), some (.sh (.int (tot + n))), some (.sh (.int (at' : Nat))), some (.sh (.int key)), y5, y6, y7, y8, y9, y10, y11, none] := by
  simp only [noRg, List.all_cons, List.all_nil, Bool.and_true, Bool.and_eq_true, Bool.not_eq_true'] at nr
  obtain ⟨n8, n9, n10, n11⟩ := nr
  have er : deepR (.tuple [.list Q, .int n]) = .tup [.lst (deepRs Q), .dat (.int n)] := by simp [deepR, deepRs]
  rw [er] at hRP
  have cu : cutD RR none (some ((at' : Int) + 1)) = rt.map .int := by
    have := cutD_hi RR (at' + 1)
    rw [hT] at this
    rw [← this]; rfl
  have sp := sSpE_ok (k := c) (j := 0) (w := 7) (f := calF 2 gRP [vVar 1, vVar 4]) (env := [some (.sh (.list RR)), some (.sh (.list P)), some (.sh (.int tot)), some (.sh (.int (at' : Nat))), some (.sh (.int key)), some (.sh (.list P)), some (.sh (.tuple [.list Q, .int n])), z7, z8, z9, z10, z11, none]) (rs := [.lst (deepRs Q), .dat (.int n)]) (ds := Q) (by simp [hRP]) rfl ht hd (by simp)
  have st : ∀ (r : SR), (sIf (op2 fEq (op2 fMod (vVar 3) (vC (.int 6))) (vC (.int 5))) (sSeq (sOwn 8 (calF 1 gS [vVar 1])) (sSeq (sExpr (vBor 8 (calF 2 gRP [vVar 8, vVar 4]))) (sSeq (sPopCal 9 8 0 gA) (sSeq (sOwn 10 (cal1 fSorted (vSlH (vVar 0) (op2 fAdd (vVar 3) (vC (.int 1)))))) (sSeq (sFor (tgN 11) (itD iL (vVar 9)) (p_l_right_k16_1 gS gP gW gI gO c gRP gA gRO gPO)) (sFrz 8 (sFrz 10 (sIf (vNot (calF 2 gI [op2 fIx (calF 2 gP [vVar 8, vVar 4]) (vC (.int 0)), op2 fAdd (vVar 10) (vLst [vVar 4])])) (sRet (vC (.bool false))) (sNil))))))))) (sNil)) [some (.sh (.list RR)), some (.sh (.list Q)), some (.sh (.int (tot + n))), some (.sh (.int (at' : Nat))), some (.sh (.int key)), some (.sh (.list P)), some (.sh (.tuple [.list Q, .int n])), none, z8, z9, z10, z11, none] = r → p_l_right_k16_2 gS gP gW gI gO c gRP gA gRO gPO [some (.sh (.list RR)), some (.sh (.list P)), some (.sh (.int tot)), some (.sh (.int (at' : Nat))), some (.sh (.int key)), z5, z6, z7, z8, z9, z10, z11, none] = r := by
    intro r e
    subst e
    unfold p_l_right_k16_2
    generalize p_l_right_k16_1 gS gP gW gI gO c gRP gA gRO gPO = P1
    refine (seq_nx (e := [some (.sh (.list RR)), some (.sh (.list P)), some (.sh (.int tot)), some (.sh (.int (at' : Nat))), some (.sh (.int key)), some (.sh (.list P)), z6, z7, z8, z9, z10, z11, none]) ?_).trans ?_
    · simp [hS]
    refine (seq_nx (e := [some (.sh (.list RR)), some (.sh (.list P)), some (.sh (.int tot)), some (.sh (.int (at' : Nat))), some (.sh (.int key)), some (.sh (.list P)), some (.sh (.tuple [.list Q, .int n])), z7, z8, z9, z10, z11, none]) ?_).trans ?_
    · simp [hP]
    refine (seq_nx (e := [some (.sh (.list RR)), some (.sh (.list P)), some (.sh (.int tot)), some (.sh (.int (at' : Nat))), some (.sh (.int key)), some (.sh (.list P)), some (.sh (.tuple [.list Q, .int n])), z7, z8, z9, z10, z11, none]) ?_).trans ?_
    · simp [hW, at1D, hN]
    refine (seq_nx (e := [some (.sh (.list RR)), some (.sh (.list P)), some (.sh (.int tot)), some (.sh (.int (at' : Nat))), some (.sh (.int key)), some (.sh (.list P)), some (.sh (.tuple [.list Q, .int n])), z7, z8, z9, z10, z11, none]) ?_).trans ?_
    · simp [cu, hI, at0D, at1D, o1, o2, en]
    refine (seq_nx sp).trans ?_
    refine (seq_nx (e := [some (.sh (.list RR)), some (.sh (.list P)), some (.sh (.int tot)), some (.sh (.int (at' : Nat))), some (.sh (.int key)), some (.sh (.list P)), some (.sh (.tuple [.list Q, .int n])), none, z8, z9, z10, z11, none]) ?_).trans ?_
    · simp [hN]
    refine (seq_nx (e := [some (.sh (.list RR)), some (.sh (.list Q)), some (.sh (.int (tot + n))), some (.sh (.int (at' : Nat))), some (.sh (.int key)), some (.sh (.list P)), some (.sh (.tuple [.list Q, .int n])), none, z8, z9, z10, z11, none]) ?_).trans rfl
    simp [at0D, at1D]
  by_cases h6 : at' % 6 = 5
  rotate_left
  · have h6 : (((at' : Int) % 6) == 5) = false := by
      rw [beq_eq_false_iff_ne]; omega
    refine ⟨some (.sh (.list P)), some (.sh (.tuple [.list Q, .int n])), none, z8, z9, z10, z11, by simp [noRg]; exact ⟨n8, n9, n10, n11⟩, st _ ?_⟩
    simp [h6]
  obtain ⟨Q2, Q3, n2, n3, q0, gone, rest0, t1, t2, t3, t4, t5, t6, t7, t8, t9, t10⟩ := tl h6
  have h6 : (((at' : Int) % 6) == 5) = true := by
    rw [beq_iff_eq]; omega
  obtain ⟨rest, y11, r1, r2, r3⟩ := rem_loop gS gP gW gI gO gRP gA gRO gPO c (some (.sh (.list RR))) (some (.sh (.list Q))) (some (.sh (.int (tot + n)))) (some (.sh (.int (at' : Nat)))) (some (.sh (.int key))) (some (.sh (.list P))) (some (.sh (.tuple [.list Q, .int n]))) none (some (.ow (Q.eraseIdx 0))) (some (.sh (.list (gone.map .int)))) none gone (srt rt) rest0 z11 ((srt_perm rt).trans t7) n11
  have fin := t10 rest r1
  have lr : (rest.map PyData.int).length + 1 ≤ 1000000 := by have := r1.length_eq; rw [List.length_map]; omega
  rw [List.map_append] at fin
  simp only [List.map_cons, List.map_nil] at fin
  have io := intsOf_map rt
  have er2 : deepR (.tuple [.list Q2, .int n2]) = .tup [.lst (deepRs Q2), .dat (.int n2)] := by simp [deepR, deepRs]
  rw [er2] at t2
  have l5 : Q.length ≤ 1000000 := by omega
  refine ⟨some (.sh (.list P)), some (.sh (.tuple [.list Q, .int n])), none, some (.sh (.list (Q.eraseIdx 0))), some (.sh (.list (gone.map .int))), some (.sh (.list (rest.map .int))), y11, by simp [noRg]; exact r2, st _ ?_⟩
  generalize p_l_right_k16_1 gS gP gW gI gO c gRP gA gRO gPO = P1 at *
  generalize hQE : Q.eraseIdx 0 = QE at *
  generalize hrt : rt.map PyData.int = RTD at *
  generalize gone.map PyData.int = GO at *
  generalize rest.map PyData.int = RE at *
  refine if_tr (by simp [h6]) ?_
  refine (seq_nx (e := [some (.sh (.list RR)), some (.sh (.list Q)), some (.sh (.int (tot + n))), some (.sh (.int (at' : Nat))), some (.sh (.int key)), some (.sh (.list P)), some (.sh (.tuple [.list Q, .int n])), none, some (.ow Q), z9, z10, z11, none]) ?_).trans ?_
  · simp [t1]
  refine (seq_nx (e := [some (.sh (.list RR)), some (.sh (.list Q)), some (.sh (.int (tot + n))), some (.sh (.int (at' : Nat))), some (.sh (.int key)), some (.sh (.list P)), some (.sh (.tuple [.list Q, .int n])), none, some (.ow Q), z9, z10, z11, none]) ?_).trans ?_
  · generalize deepRs Q2 = DQ at *
    simp [t2, t3]
  refine (seq_nx (e := [some (.sh (.list RR)), some (.sh (.list Q)), some (.sh (.int (tot + n))), some (.sh (.int (at' : Nat))), some (.sh (.int key)), some (.sh (.list P)), some (.sh (.tuple [.list Q, .int n])), none, some (.ow QE), some (.sh (.list GO)), z10, z11, none]) ?_).trans ?_
  · simp [sPopCal, t4, l5, t6, hQE]
  refine (seq_nx (e := [some (.sh (.list RR)), some (.sh (.list Q)), some (.sh (.int (tot + n))), some (.sh (.int (at' : Nat))), some (.sh (.int key)), some (.sh (.list P)), some (.sh (.tuple [.list Q, .int n])), none, some (.ow QE), some (.sh (.list GO)), some (.ow ((srt rt).map .int)), z11, none]) ?_).trans ?_
  · simp [cu, io]
  refine (seq_nx (e := [some (.sh (.list RR)), some (.sh (.list Q)), some (.sh (.int (tot + n))), some (.sh (.int (at' : Nat))), some (.sh (.int key)), some (.sh (.list P)), some (.sh (.tuple [.list Q, .int n])), none, some (.ow QE), some (.sh (.list GO)), some (.ow RE), y11, none]) ?_).trans ?_
  · exact (show _ = forL (tgN 11) P1 GO [some (.sh (.list RR)), some (.sh (.list Q)), some (.sh (.int (tot + n))), some (.sh (.int (at' : Nat))), some (.sh (.int key)), some (.sh (.list P)), some (.sh (.tuple [.list Q, .int n])), none, some (.ow QE), some (.sh (.list GO)), some (.ow ((srt rt).map .int)), z11, none] from rfl).trans r3
  simp [t9, fin, lr, at0D]
theorem same16 (k : Nat) : m_l_same_k16 k = m_l_same_k01 k := by cases k <;> rfl
theorem take_at {done r' : List Int} {x : Int} : (((done ++ x :: r').map PyData.int).take (done.length + 1)) = (done ++ [x]).map .int := by
  rw [← List.map_take, show done ++ x :: r' = (done ++ [x]) ++ r' by simp, List.take_left' (by simp)]
theorem k16_loop (k : Nat) (hk : 80 ≤ k) (gRO gPO : List SV → R) (r : List Int) (hr : r.length ≤ 40) : ∀ (r' done : List Int) (ps : List Bn) (z3 z4 z5 z6 z7 z8 z9 z10 z11 : Option SV), r = done ++ r' → PileOk ps → (pks ps).Perm done → noRg [z3, z4, z5, z7, z8, z9, z10, z11] = true →
    ∃ (qs : List Bn) (y3 y4 y5 y6 y7 y8 y9 y10 y11 : Option SV), noRg [y3, y4, y5, y7, y8, y9, y10, y11] = true ∧ forL (tg2 3 4) (p_l_right_k16_2 (m_l_same_k16 k) (m_pile_put k) (m_l_whole k) (m_l_is_pile k) (m_l_ones k) k (m_R_pile_put k) (m_l_all_in k) gRO gPO) (enumD done.length (r'.map .int)) [some (.sh (.list (r.map .int))), some (.sh (.list (ps.map Bn.d))), some (.sh (.int ((done.length : Int) - (ones done.length : Nat)))), z3, z4, z5, z6, z7, z8, z9, z10, z11, none] = .nx [some (.sh (.list (r.map .int))), some (.sh (.list (qs.map Bn.d))), some (.sh (.int ((r.length : Int) - (ones r.length : Nat)))), y3, y4, y5, y6, y7, y8, y9, y10, y11, none]
  | [], done, ps, z3, z4, z5, z6, z7, z8, z9, z10, z11, e, hp, pm, nr => by
    rw [List.append_nil] at e
    subst e
    exact ⟨ps, z3, z4, z5, z6, z7, z8, z9, z10, z11, nr, rfl⟩
  | x :: r', done, ps, z3, z4, z5, z6, z7, z8, z9, z10, z11, e, hp, pm, nr => by
    have lp := pm.length_eq
    have lr : r.length = done.length + (r'.length + 1) := by rw [e, List.length_append, List.length_cons]
    obtain ⟨qs, n, h1, h2, h3, h4, h5⟩ := E_R_pile_put ps x k (by omega) hp (by omega)
    have lq := h2.length_eq
    rw [List.length_cons] at lq
    have q1 := pile_ones hp
    have q2 := pile_ones h1
    rw [lp] at q1
    rw [lq, lp] at q2
    have pq : (pks qs).Perm (done ++ [x]) := h2.trans ((pm.cons x).trans (List.perm_append_singleton x done).symm)
    have sm : ∀ ws : List Bn, PileOk ws → m_l_same_k16 k [.sh (.list (ws.map Bn.d))] = .val (.ow (ws.map Bn.d)) := fun ws hw => by
      rw [same16]
      exact e_l_same k ws (fun t m => ⟨(hw.ok t m).1, by have := (hw.ok t m).2; omega, by have := (hw.ok t m).2; omega⟩) (by have := pile_len hw; omega) (by omega)
    have f1 : fNe (.list (ps.map Bn.d)) (.list (ps.map Bn.d)) = rb false := by
      have := pd_depth hp.ok
      unfold fNe
      rw [if_pos (by simp only [PyData.depth]; omega)]
      simp only [PyData.eqv, pd_eqv, Bool.not_true]
    simp only [noRg, List.all_cons, List.all_nil, Bool.and_true, Bool.and_eq_true, Bool.not_eq_true'] at nr
    obtain ⟨n3, n4, n5, n7, n8, n9, n10, n11⟩ := nr
    have hI := E_l_is_pile qs (done ++ [x]) k (by omega) h1 pq
    have o1 := E_l_ones k done.length (by omega) (by omega)
    have o2 := E_l_ones k (done.length + 1) (by omega) (by omega)
    obtain ⟨y5, y6, y7, y8, y9, y10, y11, ny, st⟩ := rp_step (m_l_same_k16 k) (m_pile_put k) (m_l_whole k) (m_l_is_pile k) (m_l_ones k) (m_R_pile_put k) (m_l_all_in k) gRO gPO k (r.map .int) (ps.map Bn.d) (qs.map Bn.d) [] ((done.length : Int) - (ones done.length : Nat)) n (ones done.length : Nat) (ones (done.length + 1) : Nat) done.length x (done ++ [x]) z5 z6 z7 z8 z9 z10 z11 (by simp only [noRg, List.all_cons, List.all_nil, n8, n9, n10, n11]; rfl) (sm ps hp) h4 (E_l_whole k n (by omega)) f1 hI (by rw [e]; exact take_at) o1 (by rw [← o2]; rfl) (by omega) h5 (bns_tr fun t m => ⟨(h1.ok t m).1, by have := (h1.ok t m).2; omega⟩) (tdeps_bns fun t m => ⟨(h1.ok t m).1, by have := (h1.ok t m).2; omega⟩) (fun h6 => by
      obtain ⟨q2s, n2, j1, j2, j3, j4, j5⟩ := E_R_pile_put qs x k (by omega) h1 (by omega)
      have lql := pile_len h1
      cases qs with
      | nil => simp [pks] at lq
      | cons t qr =>
        have he := pileOk_erase h1 0
        have hle := pks_erase_le (t :: qr) 0
        rw [List.eraseIdx_cons_zero] at he hle
        obtain ⟨q3s, n3', w1, w2, w3, w4⟩ := E_pile_put qr x k (by omega) he (by omega)
        have tk := h1.ok t List.mem_cons_self
        refine ⟨q2s.map Bn.d, q3s.map Bn.d, n2, n3', t.d, t.keys, pks qr, sm _ h1, j5, bns_nl q2s, rfl, by rw [List.length_map]; omega, e_l_all_in 5 t k tk.1 tk.2 (by omega) (by omega), ?_, ?_, ?_, fun rest hrest => ?_⟩
        · have := pq.symm
          rw [pks_cons] at this
          exact this
        · have := he.tot; omega
        · rw [List.map_cons, List.eraseIdx_cons_zero]; exact w4
        · exact E_l_is_pile q3s _ k (by omega) w1 (w2.trans ((hrest.symm.cons x).trans (List.perm_append_singleton x rest).symm)))
    have et : ((done.length : Int) - (ones done.length : Nat)) + (n : Int) = (((done ++ [x]).length : Nat) : Int) - (ones (done ++ [x]).length : Nat) := by
      rw [List.length_append, List.length_singleton]; omega
    rw [et] at st
    simp only [noRg, List.all_cons, List.all_nil, Bool.and_true, Bool.and_eq_true, Bool.not_eq_true'] at ny
    obtain ⟨m5, m7, m8, m9, m10, m11⟩ := ny
    obtain ⟨qs', b3, b4, b5, b6, b7, b8, b9, b10, b11, nb, ih⟩ := k16_loop k hk gRO gPO r hr r' (done ++ [x]) qs (some (.sh (.int (done.length : Nat)))) (some (.sh (.int x))) y5 y6 y7 y8 y9 y10 y11 (by rw [e]; simp) h1 pq (by simp only [noRg, List.all_cons, List.all_nil, m5, m7, m8, m9, m10, m11]; rfl)
    refine ⟨qs', b3, b4, b5, b6, b7, b8, b9, b10, b11, nb, ?_⟩
    rw [← ih, List.map_cons, enumD, List.length_append, List.length_singleton]
    rw [List.length_append, List.length_singleton] at st
    exact forL_go (env' := [some (.sh (.list (r.map .int))), some (.sh (.list (ps.map Bn.d))), some (.sh (.int ((done.length : Int) - (ones done.length : Nat)))), some (.sh (.int (done.length : Nat))), some (.sh (.int x)), z5, z6, z7, z8, z9, z10, z11, none]) rfl st
theorem rt16 (gS gP gW gI gO gRP gA gRO gPO : List SV → R) (c : Nat) (RR Q PL : List D) (n o : Int) (y3 y4 y5 y6 y7 y8 y9 y10 y11 : Option SV) (nr : noRg [y3, y4, y5, y7, y8, y9, y10, y11] = true)
    (lp : forL (tg2 3 4) (p_l_right_k16_2 gS gP gW gI gO c gRP gA gRO gPO) (enumD 0 RR) [some (.sh (.list RR)), some (.sh (.list [])), some (.sh (.int 0)), none, none, none, none, none, none, none, none, none, none] = .nx [some (.sh (.list RR)), some (.sh (.list PL)), some (.sh (.int n)), y3, y4, y5, y6, y7, y8, y9, y10, y11, none])
    (hRO : gRO [.sh (.list RR)] = .val (.rg (deepR (.tuple [.list Q, .int n])))) (hPO : gPO [.sh (.list RR)] = ok (.tuple [.list Q, .int n])) (hq : Q.length ≤ 1000) (hW : gW [.sh (.int n)] = rb true) (hN : fNe (.list RR) (.list RR) = rb false) (hI : gI [.sh (.list Q), .sh (.list RR)] = rb true) (ho : gO [.sh (.int RR.length)] = ri o) (en : n = RR.length - o) :
    b_l_right_k16 gS gP gW gI gO c gRP gA gRO gPO [some (.sh (.list RR)), none, none, none, none, none, none, none, none, none, none, none, none] = .rt (.sh (.bool true)) := by
  simp only [noRg, List.all_cons, List.all_nil, Bool.and_true, Bool.and_eq_true, Bool.not_eq_true'] at nr
  obtain ⟨n3, n4, n5, n7, n8, n9, n10, n11⟩ := nr
  have fz := deep_fzv (.tuple [.list Q, .int n])
  have er : deepR (.tuple [.list Q, .int n]) = .tup [.lst (deepRs Q), .dat (.int n)] := by simp [deepR, deepRs]
  have el := deepRs_len Q
  rw [er] at fz hRO
  unfold b_l_right_k16
  generalize p_l_right_k16_2 gS gP gW gI gO c gRP gA gRO gPO = P2 at *
  generalize deepRs Q = DQ at *
  refine (seq_nx (e := [some (.sh (.list RR)), some (.sh (.list [])), some (.sh (.int 0)), none, none, none, none, none, none, none, none, none, none]) ?_).trans ?_
  · simp
  refine (seq_nx (e := [some (.sh (.list RR)), some (.sh (.list PL)), some (.sh (.int n)), y3, y4, y5, y6, y7, y8, y9, y10, y11, none]) ?_).trans ?_
  · exact (show _ = forL (tg2 3 4) P2 (enumD 0 RR) [some (.sh (.list RR)), some (.sh (.list [])), some (.sh (.int 0)), none, none, none, none, none, none, none, none, none, none] from rfl).trans lp
  refine (seq_nx (e := [some (.sh (.list RR)), some (.sh (.list PL)), some (.sh (.int n)), y3, y4, y5, y6, y7, y8, y9, y10, y11, some (.sh (.list RR))]) ?_).trans ?_
  · simp
  refine (seq_nx (e := [some (.sh (.list RR)), some (.sh (.list PL)), some (.sh (.int n)), y3, y4, y5, some (.rg (.tup [.lst DQ, .dat (.int n)])), y7, y8, y9, y10, y11, some (.sh (.list RR))]) ?_).trans ?_
  · have no : noRg [some (SV.sh (.list RR)), some (.sh (.list PL)), some (.sh (.int n)), y3, y4, y5, none, y7, y8, y9, y10, y11, some (.sh (.list RR))] = true := by
      simp only [noRg, List.all_cons, List.all_nil, n3, n4, n5, n7, n8, n9, n10, n11]; rfl
    simp [hRO, no]
  refine (seq_nx (e := [some (.sh (.list RR)), some (.sh (.list PL)), some (.sh (.int n)), y3, y4, y5, some (.rg (.tup [.lst DQ, .dat (.int n)])), y7, y8, y9, y10, y11, some (.sh (.list RR))]) ?_).trans ?_
  · simp [fz, hW, at1D, hN]
  refine (seq_nx (e := [some (.sh (.list RR)), some (.sh (.list PL)), some (.sh (.int n)), y3, y4, y5, some (.rg (.tup [.lst DQ, .dat (.int n)])), y7, y8, y9, y10, y11, some (.sh (.list RR))]) ?_).trans ?_
  · have en' : (RR.length : Int) - o = n := en.symm
    simp [fz, hI, at0D, at1D, ho, en']
  refine (seq_nx (e := [some (.sh (.list RR)), some (.sh (.list PL)), some (.sh (.int n)), y3, y4, y5, some (.rg (.tup [.lst (DQ ++ [.dat (.int 0)]), .dat (.int n)])), y7, y8, y9, y10, y11, some (.sh (.list RR))]) ?_).trans ?_
  · have lj : DQ.length ≤ 100000 := by omega
    simp [sAppT, lj]
  simp [hPO, hI, at0D]
theorem E_l_right_k16 (r : List Int) (k : Nat) (hk : 85 ≤ k) (hr : r.length ≤ 40) : m_l_right_k16 k [.sh (.list (r.map .int))] = rb true := by
  obtain ⟨k, rfl⟩ : ∃ j, k = j + 1 := ⟨k - 1, by omega⟩
  obtain ⟨qs, y3, y4, y5, y6, y7, y8, y9, y10, y11, ny, lp⟩ := k16_loop k (by omega) (m_R_pile_of k) (m_pile_of k) r hr r [] [] none none none none none none none none none rfl pileOk_nil (.refl _) (by simp [noRg])
  obtain ⟨ps, n, h1, h2, h3, h4, h5⟩ := E_R_pile_of r k (by omega) hr
  have lq := h2.length_eq
  have q1 := pile_ones h1
  rw [lq] at q1
  have en : ((n : Nat) : Int) = (r.length : Int) - (ones r.length : Nat) := by omega
  rw [en] at h4 h5
  have o1 := E_l_ones k r.length (by omega) (by omega)
  have hI := E_l_is_pile ps r k (by omega) h1 h2
  have lR : (r.map PyData.int).length = r.length := List.length_map ..
  have hN : fNe (.list (r.map .int)) (.list (r.map .int)) = rb false := by simp
  rw [m_l_right_k16]
  refine run_rt 13 _ _ _ [some (.sh (.list (r.map .int))), none, none, none, none, none, none, none, none, none, none, none, none] rfl ?_
  refine rt16 _ _ _ _ _ _ _ _ _ k (r.map .int) (ps.map Bn.d) (qs.map Bn.d) ((r.length : Int) - (ones r.length : Nat)) (ones r.length : Nat) y3 y4 y5 y6 y7 y8 y9 y10 y11 ny ?_ h5 h4 (by have := pile_len h1; rw [List.length_map]; omega) (E_l_whole k _ (by omega)) hN hI (by rw [lR]; exact o1) (by rw [lR])
  have e0 : (([] : List Int).length : Int) - (ones ([] : List Int).length : Nat) = 0 := by first | rfl | simp [ones]
  rw [e0] at lp
  exact lp
theorem k16_in (k : Nat) (hk : 90 ≤ k) (c1 c3 c4 : List SV → R) (A : List Int) (e0 e1 e2 : Option SV) (hl : A.length ≤ 40) :
    p_law_k16_1 c1 (m_l_right_k16 k) c3 c4 [e0, e1, e2, some (.sh (.list (A.map .int)))] = .nx [e0, e1, e2, some (.sh (.list (A.map .int)))] := by
  have e := E_l_right_k16 A k (by omega) hl
  generalize m_l_right_k16 k = gE at *
  generalize A.map PyData.int = AA at *
  simp [p_law_k16_1, e]
theorem k16_out {ns : List Int} (hb : ∀ z ∈ ns, bits z ≤ 1048576) (k : Nat) (hk : 90 ≤ k) (by' : Int) (hby : by' = 0 ∨ by' = 4) (a2 a3 : Option SV) (c4 c5 : List SV → R) :
    ∃ b2 b3, p_law_k16_2 (m_l_row k) (m_l_right_k16 k) c4 c5 [some (.sh (.list (ns.map .int))), some (.sh (.int by')), a2, a3] = .nx [some (.sh (.list (ns.map .int))), some (.sh (.int by')), b2, b3] := by
  obtain ⟨wi, w1, w2, w3⟩ := wide15 (hby.imp id .inl)
  obtain ⟨M, m1, _, m2⟩ := E_l_row k hb by' 40 wi (by omega) (by omega) (by omega) (by omega) (by omega) w1
  have IN := fun A h1 => k16_in k hk (m_l_row k) c4 c5 A (some (.sh (.list (ns.map .int)))) (some (.sh (.int by'))) (some (.sh (.list (M.map .int)))) h1
  have n1 := IN M (by omega)
  have n2 := IN (srt M) (by rw [srt_len]; omega)
  have n3 := IN (srt M).reverse (by rw [List.length_reverse, srt_len]; omega)
  rw [List.map_reverse] at n3
  have io := intsOf_map M
  refine ⟨some (.sh (.list (M.map .int))), some (.sh (.list ((srt M).map .int).reverse)), ?_⟩
  unfold p_law_k16_2
  generalize p_law_k16_1 (m_l_row k) (m_l_right_k16 k) c4 c5 = PP at *
  generalize m_l_row k = gRow at *
  generalize ns.map PyData.int = NN at *
  generalize M.map PyData.int = MM at *
  clear IN
  refine (seq_nx (e := [some (.sh (.list NN)), some (.sh (.int by')), some (.sh (.list MM)), a3]) ?_).trans ?_
  · simp [w3, m2]
  refine (show _ = forL (tgN 3) PP [.list MM, .list ((srt M).map .int), .list ((srt M).map .int).reverse] [some (.sh (.list NN)), some (.sh (.int by')), some (.sh (.list MM)), a3] from ?_).trans ?_
  · simp [io]
  exact (forL_go rfl n1).trans ((forL_go rfl n2).trans ((forL_go rfl n3).trans rfl))
theorem law_main_k16 (ns : List Int) (hl : ns.length ≤ 63) (hb : ∀ z ∈ ns, bits z ≤ 1048576) : m_law_k16 101 [.sh (.list (ns.map .int))] = .val (.sh (.bool true)) := by
  obtain ⟨n, _, hn, h1⟩ := iR3_4 8 (.inl rfl) ns.length
  have hn := hn rfl
  obtain ⟨e, h2, b1, b2, b3, rfl⟩ := forL_inv (t := tgN 1) (b := p_law_k16_2 (m_l_row 100) (m_l_right_k16 100) (m_pile_of 100) (m_pile_put 100)) (xs := rngD 0 4 n) (fun e => ∃ b1 b2 b3, e = [some (.sh (.list (ns.map .int))), b1, b2, b3]) (env := [some (.sh (.list (ns.map .int))), none, none, none]) (fun d hd env h => by
    obtain ⟨b1, b2, b3, rfl⟩ := h
    obtain ⟨i, hi, rfl⟩ := rngD_mem hd
    obtain ⟨c2, c3, h3⟩ := k16_out hb 100 (by omega) (0 + (i : Int) * 4) (by omega) b2 b3 (m_pile_of 100) (m_pile_put 100)
    exact ⟨_, _, rfl, h3, _, _, _, rfl⟩) ⟨_, _, _, rfl⟩
  have e1 : m_pile_of 100 [.sh (.list [])] = ok (.tuple [.list [], .int 0]) := by kernel_rfl
  have e2 : m_pile_of 100 [.sh (.list [.int 3, .int 1])] = ok (.tuple [.list [.tuple [.int 1, .list [.tuple [.int 3, .list []]]]], .int 1]) := by kernel_rfl
  have e3 : m_pile_put 100 [.sh (.list []), .sh (.int 7)] = ok (.tuple [.list [.tuple [.int 7, .list []]], .int 0]) := by kernel_rfl
  rw [m_law_k16]
  refine run_rt 4 _ _ _ [some (.sh (.list (ns.map .int))), none, none, none] rfl ?_
  unfold b_law_k16
  have ll : (ns.map PyData.int).length = ns.length := List.length_map ..
  simp only [Int.cast_ofNat_Int] at h1
  rw [← ll] at h1
  generalize ns.map PyData.int = NN at *
  generalize p_law_k16_2 (m_l_row 100) (m_l_right_k16 100) (m_pile_of 100) (m_pile_put 100) = PP at *
  generalize m_pile_of 100 = gT at *
  generalize m_pile_put 100 = gN at *
  refine (seq_nx (e := [some (.sh (.list NN)), b1, b2, b3]) ?_).trans ?_
  · simp [ite_min, h1, h2]
  have f1 : fEq (.tuple [.list [], .int 0]) (.tuple [.list [], .int 0]) = rb true := by
    simp [fEq, PyData.depth, PyData.depthAll, PyData.eqv, PyData.eqvAll]
  have f2 : fEq (.tuple [.list [.tuple [.int 1, .list [.tuple [.int 3, .list []]]]], .int 1]) (.tuple [.list [.tuple [.int 1, .list [.tuple [.int 3, .list []]]]], .int 1]) = rb true := by
    simp [fEq, PyData.depth, PyData.depthAll, PyData.eqv, PyData.eqvAll]
  have f3 : fEq (.tuple [.list [.tuple [.int 7, .list []]], .int 0]) (.tuple [.list [.tuple [.int 7, .list []]], .int 0]) = rb true := by
    simp [fEq, PyData.depth, PyData.depthAll, PyData.eqv, PyData.eqvAll]
  simp [e1, e2, e3, f1, f2, f3]
def top (i : Nat) : Stmt := PySem.Challenge.pw_heapmeld_k16_whole_pile_put.main.body.getD i (.Pass ⟨0, 0, 0, 0⟩)
structure Top (K : PySem.W.Frag) (mg : Str → Option Value) (T : Ct) : Prop where
  d_is_key : Df K mg "is_key" "is_key" (top 7) ["thing"]
  d_check_key : Df K mg "check_key" "check_key" (top 8) ["key"]
  d_check_keys : Df K mg "check_keys" "check_keys" (top 9) ["keys"]
  d_order_of : Df K mg "order_of" "order_of" (top 11) ["tree"]
  d_is_tree : Df K mg "is_tree" "is_tree" (top 12) ["thing", "order"]
  d_is_pile : Df K mg "is_pile" "is_pile" (top 13) ["thing"]
  d_check_pile : Df K mg "check_pile" "check_pile" (top 14) ["pile"]
  d_count_of : Df K mg "count_of" "count_of" (top 15) ["pile"]
  d_copied : Df K mg "copied" "copied" (top 16) ["tree"]
  d_linked : Df K mg "linked" "linked" (top 17) ["one", "other"]
  d_joinP : Df K mg "joined_of" "joined_of" (top 18) ["one", "other"]
  d_pile_put : Df K mg "pile_put" "pile_put" (top 19) ["pile", "key"]
  d_pile_of : Df K mg "pile_of" "pile_of" (top 20) ["keys"]
  d_l_cell_at : Df K mg "_law_cell_at" "_law_cell_at" (top 22) ["_law_script", "_law_k"]
  d_l_draw : Df K mg "_law_draw" "_law_draw" (top 23) ["_law_cell", "_law_k", "_law_most"]
  d_l_number_k01 : Df K mg "_law_number" "_law_number" (top 24) ["_law_cell", "_law_k", "_law_limit"]
  d_l_row : Df K mg "_law_row" "_law_row" (top 25) ["_law_script", "_law_by", "_law_most", "_law_wide"]
  d_l_whole : Df K mg "_law_whole" "_law_whole" (top 26) ["_law_found"]
  d_l_ones : Df K mg "_law_ones" "_law_ones" (top 27) ["_law_number_here"]
  d_l_is_order : Df K mg "_law_is_order" "_law_is_order" (top 28) ["_law_tree", "_law_order", "_law_least"]
  d_l_all_in : Df K mg "_law_all_in" "_law_all_in" (top 29) ["_law_tree"]
  d_l_is_pile : Df K mg "_law_is_pile" "_law_is_pile" (top 30) ["_law_found", "_law_due"]
  d_l_same_tree : Df K mg "_law_same_tree" "_law_same_tree" (top 31) ["_law_tree"]
  d_l_same_k16 : Df K mg "_law_same" "_law_same" (top 32) ["_law_pile"]
  d_l_spoil : Df K mg "_law_spoil" "_law_spoil" (top 33) ["_law_tree"]
  d_l_right_k16 : Df K mg "_law_right" "_law_right" (top 34) ["_law_row_here"]
  d_law_k16 : Df K mg "law" "law" (top 35) ["_law_script"]
  hme : T.me = none
  b_isinstance : mg "isinstance" = none
  b_int : mg "int" = none
  b_bool : mg "bool" = none
  e_BadKey : Er K mg T "BadKey"
  b_list : mg "list" = none
  b_len : mg "len" = none
  k_MOST : ∃ tk, mg "MOST" = some (.int 40 tk)
  b_all : mg "all" = none
  b_tuple : mg "tuple" = none
  b_enumerate : mg "enumerate" = none
  e_BadPile : Er K mg T "BadPile"
  b_sum : mg "sum" = none
  b_max : mg "max" = none
  b_range : mg "range" = none
  e_TooMany : Er K mg T "TooMany"
  b_zip : mg "zip" = none
  b_any : mg "any" = none
  b_sorted : mg "sorted" = none
  b_min : mg "min" = none
section
variable {P : Program} {w : World} {K : PySem.W.Frag} {mg : Str → Option Value} {base : Heap} {T : Ct}
abbrev s_is_key : Stmt := top 7
abbrev N_is_key : List Str := ["thing"]
theorem sc_is_key : FnScope N_is_key ["thing"] (defScope s_is_key) := ⟨rfl, rfl, rfl, by decide +kernel, rfl, by decide +kernel, by decide +kernel⟩
theorem bd_is_key {k : Nat} (t : Top K mg T) : Bd P w K mg base T k N_is_key "is_key" s_is_key (b_is_key) := by
  intro f cdv A outer s0 H E B hr C po tk
  unfold b_is_key
  exact vss_one (vs_ret (ve_and (ve_isi ty_int ⟨rfl, t.b_isinstance⟩ ⟨rfl, t.b_int⟩ (by decide +kernel) (ve_var 0)) (ve_one (ve_not (ve_isi ty_bool ⟨rfl, t.b_isinstance⟩ ⟨rfl, t.b_bool⟩ (by decide +kernel) (ve_var 0))))))
theorem all_is_key (t : Top K mg T) : ∀ k, Fn P w K mg base T k "is_key" 1 (m_is_key k)
  | 0 => fn_zero t.d_is_key rfl
  | k + 1 => fn_mk t.d_is_key sc_is_key (bd_is_key t)
abbrev s_check_key : Stmt := top 8
abbrev N_check_key : List Str := ["key"]
theorem sc_check_key : FnScope N_check_key ["key"] (defScope s_check_key) := ⟨rfl, rfl, rfl, by decide +kernel, rfl, by decide +kernel, by decide +kernel⟩
theorem bd_check_key {k : Nat} {c_is_key : List SV → R} (t : Top K mg T) (h_is_key : Fn P w K mg base T k "is_key" 1 c_is_key) : Bd P w K mg base T k N_check_key "check_key" s_check_key (b_check_key c_is_key) := by
  intro f cdv A outer s0 H E B hr C po tk
  unfold b_check_key
  exact vss_one (vs_if (vt_not (vt_val (ve_callF h_is_key hr rfl C (va_cons (ve_var 0) (va_nil))))) (vss_one (vs_raiseE C tk t.e_BadKey rfl)) (vss_nil))
theorem all_check_key (t : Top K mg T) : ∀ k, Fn P w K mg base T k "check_key" 1 (m_check_key k)
  | 0 => fn_zero t.d_check_key rfl
  | k + 1 => fn_mk t.d_check_key sc_check_key (bd_check_key t (all_is_key t k))
abbrev s_check_keys : Stmt := top 9
abbrev N_check_keys : List Str := ["keys", "key"]
theorem sc_check_keys : FnScope N_check_keys ["keys"] (defScope s_check_keys) := ⟨rfl, rfl, rfl, by decide +kernel, rfl, by decide +kernel, by decide +kernel⟩
theorem bd_check_keys {k : Nat} {c_is_key : List SV → R} (t : Top K mg T) (h_is_key : Fn P w K mg base T k "is_key" 1 c_is_key) : Bd P w K mg base T k N_check_keys "check_keys" s_check_keys (b_check_keys c_is_key) := by
  obtain ⟨tk_MOST, h_MOST⟩ := t.k_MOST
  intro f cdv A outer s0 H E B hr C po tk
  unfold b_check_keys
  exact vss_one (vs_if (vt_w (vw_or (vt_not (vt_val (ve_isi ty_list ⟨rfl, t.b_isinstance⟩ ⟨rfl, t.b_list⟩ (by decide +kernel) (ve_var 0)))) (vw_or (vt_cm c_gt (ve_len ⟨rfl, t.b_len⟩ (ve_var 0)) (ve_gint rfl h_MOST)) (vw_or1 (vt_not (vt_val (ve_all C ⟨rfl, t.b_all⟩ (ve_lc (own := [("key", 1)]) C (vi_list (ve_var 0)) (blkOk_by (N := N_check_keys) (sc := defScope s_check_keys) (by decide +kernel)) tr_name (fun _ _ _ _ _ => pg_name (i := 1) C.nd rfl (by first | exact Or.inl rfl | exact Or.inr rfl)) (fun _ _ _ _ _ => vts_nil) (fun _ _ _ _ _ => ve_callF h_is_key hr rfl C.blk (va_cons (ve_var 1) (va_nil))))))))))) (vss_one (vs_raiseE C tk t.e_BadKey rfl)) (vss_nil))
theorem all_check_keys (t : Top K mg T) : ∀ k, Fn P w K mg base T k "check_keys" 1 (m_check_keys k)
  | 0 => fn_zero t.d_check_keys rfl
  | k + 1 => fn_mk t.d_check_keys sc_check_keys (bd_check_keys t (all_is_key t k))
abbrev s_order_of : Stmt := top 11
abbrev N_order_of : List Str := ["tree"]
theorem sc_order_of : FnScope N_order_of ["tree"] (defScope s_order_of) := ⟨rfl, rfl, rfl, by decide +kernel, rfl, by decide +kernel, by decide +kernel⟩
theorem bd_order_of {k : Nat} (t : Top K mg T) : Bd P w K mg base T k N_order_of "order_of" s_order_of (b_order_of) := by
  intro f cdv A outer s0 H E B hr C po tk
  unfold b_order_of
  exact vss_one (vs_ret (ve_len ⟨rfl, t.b_len⟩ (ve_ix (ve_var 0) (ve_int))))
theorem all_order_of (t : Top K mg T) : ∀ k, Fn P w K mg base T k "order_of" 1 (m_order_of k)
  | 0 => fn_zero t.d_order_of rfl
  | k + 1 => fn_mk t.d_order_of sc_order_of (bd_order_of t)
abbrev s_is_tree : Stmt := top 12
abbrev N_is_tree : List Str := ["thing", "order", "at", "child"]
theorem sc_is_tree : FnScope N_is_tree ["thing", "order"] (defScope s_is_tree) := ⟨rfl, rfl, rfl, by decide +kernel, rfl, by decide +kernel, by decide +kernel⟩
theorem bd_is_tree {k : Nat} {c_is_key : List SV → R} {c_is_tree : List SV → R} (t : Top K mg T) (h_is_key : Fn P w K mg base T k "is_key" 1 c_is_key) (h_is_tree : Fn P w K mg base T k "is_tree" 2 c_is_tree) : Bd P w K mg base T k N_is_tree "is_tree" s_is_tree (b_is_tree c_is_key c_is_tree) := by
  intro f cdv A outer s0 H E B hr C po tk
  unfold b_is_tree p_is_tree_1
  exact vss_cons (vs_if (vt_w (vw_or (vt_not (vt_val (ve_isi ty_tuple ⟨rfl, t.b_isinstance⟩ ⟨rfl, t.b_tuple⟩ (by decide +kernel) (ve_var 0)))) (vw_or (vt_cm (c_ne C) (ve_len ⟨rfl, t.b_len⟩ (ve_var 0)) (ve_int)) (vw_or (vt_not (vt_val (ve_callF h_is_key hr rfl C (va_cons (ve_ix (ve_var 0) (ve_int)) (va_nil))))) (vw_or1 (vt_not (vt_val (ve_isi ty_list ⟨rfl, t.b_isinstance⟩ ⟨rfl, t.b_list⟩ (by decide +kernel) (ve_ix (ve_var 0) (ve_int)))))))))) (vss_one (vs_ret (ve_bl))) (vss_nil)) (vss_cons (vs_if (vt_cm (c_ne C) (ve_len ⟨rfl, t.b_len⟩ (ve_ix (ve_var 0) (ve_int))) (ve_var 1)) (vss_one (vs_ret (ve_bl))) (vss_nil)) (vss_cons (vs_for C po (vi_enum ⟨rfl, t.b_enumerate⟩ (va_cons (ve_ix (ve_var 0) (ve_int)) (va_nil))) tr_2 (pg_tup rfl (pgs_cons (pg_name (i := 2) C.nd rfl (by first | exact Or.inl rfl | exact Or.inr rfl)) (pgs_cons (pg_name (i := 3) C.nd rfl (by first | exact Or.inl rfl | exact Or.inr rfl)) (pgs_nil)))) (vss_one (vs_if (vt_w (vw_or (vt_not (vt_val (ve_callF h_is_tree hr rfl C (va_cons (ve_var 3) (va_cons (ve_sub (ve_sub (ve_var 1) (ve_int)) (ve_var 2)) (va_nil)))))) (vw_or1 (vt_cm c_lt (ve_ix (ve_var 3) (ve_int)) (ve_ix (ve_var 0) (ve_int)))))) (vss_one (vs_ret (ve_bl))) (vss_nil)))) (vss_one (vs_ret (ve_bl)))))
theorem all_is_tree (t : Top K mg T) : ∀ k, Fn P w K mg base T k "is_tree" 2 (m_is_tree k)
  | 0 => fn_zero t.d_is_tree rfl
  | k + 1 => fn_mk t.d_is_tree sc_is_tree (bd_is_tree t (all_is_key t k) (all_is_tree t k))
abbrev s_is_pile : Stmt := top 13
abbrev N_is_pile : List Str := ["thing", "last", "many", "tree", "order"]
theorem sc_is_pile : FnScope N_is_pile ["thing"] (defScope s_is_pile) := ⟨rfl, rfl, rfl, by decide +kernel, rfl, by decide +kernel, by decide +kernel⟩
theorem bd_is_pile {k : Nat} {c_order_of : List SV → R} {c_is_tree : List SV → R} (t : Top K mg T) (h_order_of : Fn P w K mg base T k "order_of" 1 c_order_of) (h_is_tree : Fn P w K mg base T k "is_tree" 2 c_is_tree) : Bd P w K mg base T k N_is_pile "is_pile" s_is_pile (b_is_pile c_order_of c_is_tree) := by
  obtain ⟨tk_MOST, h_MOST⟩ := t.k_MOST
  intro f cdv A outer s0 H E B hr C po tk
  unfold b_is_pile p_is_pile_1
  exact vss_cons (vs_if (vt_not (vt_val (ve_isi ty_list ⟨rfl, t.b_isinstance⟩ ⟨rfl, t.b_list⟩ (by decide +kernel) (ve_var 0)))) (vss_one (vs_ret (ve_bl))) (vss_nil)) (vss_cons (vs_unp (ve_tup (va_cons (ve_neg (ve_int)) (va_cons (ve_int) (va_nil)))) tr_2 (pg_tup rfl (pgs_cons (pg_name (i := 1) C.nd rfl (by first | exact Or.inl rfl | exact Or.inr rfl)) (pgs_cons (pg_name (i := 2) C.nd rfl (by first | exact Or.inl rfl | exact Or.inr rfl)) (pgs_nil))))) (vss_cons (vs_for C po (vi_list (ve_var 0)) tr_name (pg_name (i := 3) C.nd rfl (by first | exact Or.inl rfl | exact Or.inr rfl)) (vss_cons (vs_if (vt_w (vw_or (vt_not (vt_val (ve_isi ty_tuple ⟨rfl, t.b_isinstance⟩ ⟨rfl, t.b_tuple⟩ (by decide +kernel) (ve_var 3)))) (vw_or (vt_cm (c_ne C) (ve_len ⟨rfl, t.b_len⟩ (ve_var 3)) (ve_int)) (vw_or1 (vt_not (vt_val (ve_isi ty_list ⟨rfl, t.b_isinstance⟩ ⟨rfl, t.b_list⟩ (by decide +kernel) (ve_ix (ve_var 3) (ve_int))))))))) (vss_one (vs_ret (ve_bl))) (vss_nil)) (vss_cons (vs_set 4 C (ve_callF h_order_of hr rfl C (va_cons (ve_var 3) (va_nil)))) (vss_cons (vs_if (vt_w (vw_or (vt_cm c_le (ve_var 4) (ve_var 1)) (vw_or (vt_cm c_gt (ve_var 4) (ve_int)) (vw_or1 (vt_not (vt_val (ve_callF h_is_tree hr rfl C (va_cons (ve_var 3) (va_cons (ve_var 4) (va_nil)))))))))) (vss_one (vs_ret (ve_bl))) (vss_nil)) (vss_one (vs_par2 1 2 false false C (ve_var 4) (ve_add (ve_var 2) (ve_shl (ve_int) (ve_var 4))))))))) (vss_one (vs_ret (ve_cm c_le (ve_var 2) (ve_gint rfl h_MOST))))))
theorem all_is_pile (t : Top K mg T) : ∀ k, Fn P w K mg base T k "is_pile" 1 (m_is_pile k)
  | 0 => fn_zero t.d_is_pile rfl
  | k + 1 => fn_mk t.d_is_pile sc_is_pile (bd_is_pile t (all_order_of t k) (all_is_tree t k))
abbrev s_check_pile : Stmt := top 14
abbrev N_check_pile : List Str := ["pile"]
theorem sc_check_pile : FnScope N_check_pile ["pile"] (defScope s_check_pile) := ⟨rfl, rfl, rfl, by decide +kernel, rfl, by decide +kernel, by decide +kernel⟩
theorem bd_check_pile {k : Nat} {c_is_pile : List SV → R} (t : Top K mg T) (h_is_pile : Fn P w K mg base T k "is_pile" 1 c_is_pile) : Bd P w K mg base T k N_check_pile "check_pile" s_check_pile (b_check_pile c_is_pile) := by
  intro f cdv A outer s0 H E B hr C po tk
  unfold b_check_pile
  exact vss_one (vs_if (vt_not (vt_val (ve_callF h_is_pile hr rfl C (va_cons (ve_var 0) (va_nil))))) (vss_one (vs_raiseE C tk t.e_BadPile rfl)) (vss_nil))
theorem all_check_pile (t : Top K mg T) : ∀ k, Fn P w K mg base T k "check_pile" 1 (m_check_pile k)
  | 0 => fn_zero t.d_check_pile rfl
  | k + 1 => fn_mk t.d_check_pile sc_check_pile (bd_check_pile t (all_is_pile t k))
abbrev s_count_of : Stmt := top 15
abbrev N_count_of : List Str := ["pile", "tree"]
theorem sc_count_of : FnScope N_count_of ["pile"] (defScope s_count_of) := ⟨rfl, rfl, rfl, by decide +kernel, rfl, by decide +kernel, by decide +kernel⟩
theorem bd_count_of {k : Nat} {c_order_of : List SV → R} (t : Top K mg T) (h_order_of : Fn P w K mg base T k "order_of" 1 c_order_of) : Bd P w K mg base T k N_count_of "count_of" s_count_of (b_count_of c_order_of) := by
  intro f cdv A outer s0 H E B hr C po tk
  unfold b_count_of
  exact vss_one (vs_ret (ve_sum C ⟨rfl, t.b_sum⟩ (ve_lc (own := [("tree", 1)]) C (vi_list (ve_var 0)) (blkOk_by (N := N_count_of) (sc := defScope s_count_of) (by decide +kernel)) tr_name (fun _ _ _ _ _ => pg_name (i := 1) C.nd rfl (by first | exact Or.inl rfl | exact Or.inr rfl)) (fun _ _ _ _ _ => vts_nil) (fun _ _ _ _ _ => ve_shl (ve_int) (ve_callF h_order_of hr rfl C.blk (va_cons (ve_var 1) (va_nil)))))))
theorem all_count_of (t : Top K mg T) : ∀ k, Fn P w K mg base T k "count_of" 1 (m_count_of k)
  | 0 => fn_zero t.d_count_of rfl
  | k + 1 => fn_mk t.d_count_of sc_count_of (bd_count_of t (all_order_of t k))
abbrev s_copied : Stmt := top 16
abbrev N_copied : List Str := ["tree", "child"]
theorem sc_copied : FnScope N_copied ["tree"] (defScope s_copied) := ⟨rfl, rfl, rfl, by decide +kernel, rfl, by decide +kernel, by decide +kernel⟩
theorem bd_copied {k : Nat} {c_copied : List SV → R} (t : Top K mg T) (h_copied : Fn P w K mg base T k "copied" 1 c_copied) : Bd P w K mg base T k N_copied "copied" s_copied (b_copied c_copied) := by
  intro f cdv A outer s0 H E B hr C po tk
  unfold b_copied
  exact vss_one (vs_ret (ve_tup (va_cons (ve_ix (ve_var 0) (ve_int)) (va_cons (ve_lc (own := [("child", 1)]) C (vi_list (ve_ix (ve_var 0) (ve_int))) (blkOk_by (N := N_copied) (sc := defScope s_copied) (by decide +kernel)) tr_name (fun _ _ _ _ _ => pg_name (i := 1) C.nd rfl (by first | exact Or.inl rfl | exact Or.inr rfl)) (fun _ _ _ _ _ => vts_nil) (fun _ _ _ _ _ => ve_callF h_copied hr rfl C.blk (va_cons (ve_var 1) (va_nil)))) (va_nil)))))
theorem all_copied (t : Top K mg T) : ∀ k, Fn P w K mg base T k "copied" 1 (m_copied k)
  | 0 => fn_zero t.d_copied rfl
  | k + 1 => fn_mk t.d_copied sc_copied (bd_copied t (all_copied t k))
abbrev s_linked : Stmt := top 17
abbrev N_linked : List Str := ["one", "other"]
theorem sc_linked : FnScope N_linked ["one", "other"] (defScope s_linked) := ⟨rfl, rfl, rfl, by decide +kernel, rfl, by decide +kernel, by decide +kernel⟩
theorem bd_linked {k : Nat} (t : Top K mg T) : Bd P w K mg base T k N_linked "linked" s_linked (b_linked) := by
  intro f cdv A outer s0 H E B hr C po tk
  unfold b_linked
  exact vss_cons (vs_if (vt_cm c_lt (ve_ix (ve_var 1) (ve_int)) (ve_ix (ve_var 0) (ve_int))) (vss_one (vs_par2 0 1 false false C (ve_var 1) (ve_var 0))) (vss_nil)) (vss_one (vs_ret (ve_tup (va_cons (ve_ix (ve_var 0) (ve_int)) (va_cons (ve_add (ve_lst (va_cons (ve_var 1) (va_nil))) (ve_ix (ve_var 0) (ve_int))) (va_nil))))))
theorem all_linked (t : Top K mg T) : ∀ k, Fn P w K mg base T k "linked" 2 (m_linked k)
  | 0 => fn_zero t.d_linked rfl
  | k + 1 => fn_mk t.d_linked sc_linked (bd_linked t)
abbrev s_joinP : Stmt := top 18
abbrev N_joinP : List Str := ["one", "other", "found", "carry", "links", "high", "order", "some", "tree"]
theorem sc_joinP : FnScope N_joinP ["one", "other"] (defScope s_joinP) := ⟨rfl, rfl, rfl, by decide +kernel, rfl, by decide +kernel, by decide +kernel⟩
theorem bd_joinP {k : Nat} {c_order_of : List SV → R} {c_linked : List SV → R} (t : Top K mg T) (h_order_of : Fn P w K mg base T k "order_of" 1 c_order_of) (h_linked : Fn P w K mg base T k "linked" 2 c_linked) : Bd P w K mg base T k N_joinP "joined_of" s_joinP (b_joinP c_order_of c_linked) := by
  intro f cdv A outer s0 H E B hr C po tk
  unfold b_joinP p_joinP_1
  exact vss_cons (vs_par3 2 3 4 true false false C (ve_lst (va_nil)) (ve_lst (va_nil)) (ve_int)) (vss_cons (vs_set 5 C (ve_max1 C ⟨rfl, t.b_max⟩ (ve_add (ve_lc (own := [("tree", 8)]) C (vi_list (ve_add (ve_var 0) (ve_var 1))) (blkOk_by (N := N_joinP) (sc := defScope s_joinP) (by decide +kernel)) tr_name (fun _ _ _ _ _ => pg_name (i := 8) C.nd rfl (by first | exact Or.inl rfl | exact Or.inr rfl)) (fun _ _ _ _ _ => vts_nil) (fun _ _ _ _ _ => ve_callF h_order_of hr rfl C.blk (va_cons (ve_var 8) (va_nil)))) (ve_lst (va_cons (ve_neg (ve_int)) (va_nil)))))) (vss_cons (vs_for C po (vi_range1 ⟨rfl, t.b_range⟩ (va_cons (ve_add (ve_var 5) (ve_int)) (va_nil))) tr_name (pg_name (i := 6) C.nd rfl (by first | exact Or.inl rfl | exact Or.inr rfl)) (vss_cons (vs_set 7 C (ve_add (ve_lc (own := [("tree", 8)]) C (vi_list (ve_add (ve_var 0) (ve_var 1))) (blkOk_by (N := N_joinP) (sc := defScope s_joinP) (by decide +kernel)) tr_name (fun _ _ _ _ _ => pg_name (i := 8) C.nd rfl (by first | exact Or.inl rfl | exact Or.inr rfl)) (fun _ _ _ _ _ => vts_one (vt_cm (c_eq C.blk) (ve_callF h_order_of hr rfl C.blk (va_cons (ve_var 8) (va_nil))) (ve_var 6))) (fun _ _ _ _ _ => ve_var 8)) (ve_var 3))) (vss_cons (vs_set 3 C (ve_lst (va_nil))) (vss_cons (vs_if (vt_cm c_gt (ve_len ⟨rfl, t.b_len⟩ (ve_var 7)) (ve_int)) (vss_cons (vs_set 3 C (ve_lst (va_cons (ve_callF h_linked hr rfl C (va_cons (ve_ix (ve_var 7) (ve_int)) (va_cons (ve_ix (ve_var 7) (ve_int)) (va_nil)))) (va_nil)))) (vss_cons (vs_set 7 C (ve_slL (ve_var 7) (ve_int))) (vss_one (vs_add 4 C (ve_int))))) (vss_nil)) (vss_one (vs_ext 2 (ve_var 7))))))) (vss_one (vs_frz 2 (vs_ret (ve_tup (va_cons (ve_var 2) (va_cons (ve_var 4) (va_nil)))))))))
theorem all_joinP (t : Top K mg T) : ∀ k, Fn P w K mg base T k "joined_of" 2 (m_joinP k)
  | 0 => fn_zero t.d_joinP rfl
  | k + 1 => fn_mk t.d_joinP sc_joinP (bd_joinP t (all_order_of t k) (all_linked t k))
abbrev s_pile_put : Stmt := top 19
abbrev N_pile_put : List Str := ["pile", "key", "tree"]
theorem sc_pile_put : FnScope N_pile_put ["pile", "key"] (defScope s_pile_put) := ⟨rfl, rfl, rfl, by decide +kernel, rfl, by decide +kernel, by decide +kernel⟩
theorem bd_pile_put {k : Nat} {c_check_pile : List SV → R} {c_check_key : List SV → R} {c_count_of : List SV → R} {c_copied : List SV → R} {c_joinP : List SV → R} (t : Top K mg T) (h_check_pile : Fn P w K mg base T k "check_pile" 1 c_check_pile) (h_check_key : Fn P w K mg base T k "check_key" 1 c_check_key) (h_count_of : Fn P w K mg base T k "count_of" 1 c_count_of) (h_copied : Fn P w K mg base T k "copied" 1 c_copied) (h_joinP : Fn P w K mg base T k "joined_of" 2 c_joinP) : Bd P w K mg base T k N_pile_put "pile_put" s_pile_put (b_pile_put c_check_pile c_check_key c_count_of c_copied c_joinP) := by
  obtain ⟨tk_MOST, h_MOST⟩ := t.k_MOST
  intro f cdv A outer s0 H E B hr C po tk
  unfold b_pile_put
  exact vss_cons (vs_expr (ve_callF h_check_pile hr rfl C (va_cons (ve_var 0) (va_nil)))) (vss_cons (vs_expr (ve_callF h_check_key hr rfl C (va_cons (ve_var 1) (va_nil)))) (vss_cons (vs_if (vt_cm c_gt (ve_add (ve_callF h_count_of hr rfl C (va_cons (ve_var 0) (va_nil))) (ve_int)) (ve_gint rfl h_MOST)) (vss_one (vs_raiseE C tk t.e_TooMany rfl)) (vss_nil)) (vss_one (vs_ret (ve_callF h_joinP hr rfl C (va_cons (ve_lc (own := [("tree", 2)]) C (vi_list (ve_var 0)) (blkOk_by (N := N_pile_put) (sc := defScope s_pile_put) (by decide +kernel)) tr_name (fun _ _ _ _ _ => pg_name (i := 2) C.nd rfl (by first | exact Or.inl rfl | exact Or.inr rfl)) (fun _ _ _ _ _ => vts_nil) (fun _ _ _ _ _ => ve_callF h_copied hr rfl C.blk (va_cons (ve_var 2) (va_nil)))) (va_cons (ve_lst (va_cons (ve_tup (va_cons (ve_var 1) (va_cons (ve_lst (va_nil)) (va_nil)))) (va_nil))) (va_nil))))))))
theorem all_pile_put (t : Top K mg T) : ∀ k, Fn P w K mg base T k "pile_put" 2 (m_pile_put k)
  | 0 => fn_zero t.d_pile_put rfl
  | k + 1 => fn_mk t.d_pile_put sc_pile_put (bd_pile_put t (all_check_pile t k) (all_check_key t k) (all_count_of t k) (all_copied t k) (all_joinP t k))
abbrev s_pile_of : Stmt := top 20
abbrev N_pile_of : List Str := ["keys", "found", "links", "key", "more"]
theorem sc_pile_of : FnScope N_pile_of ["keys"] (defScope s_pile_of) := ⟨rfl, rfl, rfl, by decide +kernel, rfl, by decide +kernel, by decide +kernel⟩
theorem bd_pile_of {k : Nat} {c_check_keys : List SV → R} {c_joinP : List SV → R} (t : Top K mg T) (h_check_keys : Fn P w K mg base T k "check_keys" 1 c_check_keys) (h_joinP : Fn P w K mg base T k "joined_of" 2 c_joinP) : Bd P w K mg base T k N_pile_of "pile_of" s_pile_of (b_pile_of c_check_keys c_joinP) := by
  intro f cdv A outer s0 H E B hr C po tk
  unfold b_pile_of p_pile_of_1
  exact vss_cons (vs_expr (ve_callF h_check_keys hr rfl C (va_cons (ve_var 0) (va_nil)))) (vss_cons (vs_par2 1 2 false false C (ve_lst (va_nil)) (ve_int)) (vss_cons (vs_for C po (vi_list (ve_var 0)) tr_name (pg_name (i := 3) C.nd rfl (by first | exact Or.inl rfl | exact Or.inr rfl)) (vss_cons (vs_unp (ve_callF h_joinP hr rfl C (va_cons (ve_var 1) (va_cons (ve_lst (va_cons (ve_tup (va_cons (ve_var 3) (va_cons (ve_lst (va_nil)) (va_nil)))) (va_nil))) (va_nil)))) tr_2 (pg_tup rfl (pgs_cons (pg_name (i := 1) C.nd rfl (by first | exact Or.inl rfl | exact Or.inr rfl)) (pgs_cons (pg_name (i := 4) C.nd rfl (by first | exact Or.inl rfl | exact Or.inr rfl)) (pgs_nil))))) (vss_one (vs_add 2 C (ve_var 4))))) (vss_one (vs_ret (ve_tup (va_cons (ve_var 1) (va_cons (ve_var 2) (va_nil))))))))
theorem all_pile_of (t : Top K mg T) : ∀ k, Fn P w K mg base T k "pile_of" 1 (m_pile_of k)
  | 0 => fn_zero t.d_pile_of rfl
  | k + 1 => fn_mk t.d_pile_of sc_pile_of (bd_pile_of t (all_check_keys t k) (all_joinP t k))
abbrev s_l_cell_at : Stmt := top 22
abbrev N_l_cell_at : List Str := ["_law_script", "_law_k"]
theorem sc_l_cell_at : FnScope N_l_cell_at ["_law_script", "_law_k"] (defScope s_l_cell_at) := ⟨rfl, rfl, rfl, by decide +kernel, rfl, by decide +kernel, by decide +kernel⟩
theorem bd_l_cell_at {k : Nat} (t : Top K mg T) : Bd P w K mg base T k N_l_cell_at "_law_cell_at" s_l_cell_at (b_l_cell_at) := by
  intro f cdv A outer s0 H E B hr C po tk
  unfold b_l_cell_at
  exact vss_cons (vs_if (vt_cm c_lt (ve_var 1) (ve_len ⟨rfl, t.b_len⟩ (ve_var 0))) (vss_one (vs_ret (ve_ix (ve_var 0) (ve_var 1)))) (vss_nil)) (vss_one (vs_ret (ve_int)))
theorem all_l_cell_at (t : Top K mg T) : ∀ k, Fn P w K mg base T k "_law_cell_at" 2 (m_l_cell_at k)
  | 0 => fn_zero t.d_l_cell_at rfl
  | k + 1 => fn_mk t.d_l_cell_at sc_l_cell_at (bd_l_cell_at t)
abbrev s_l_draw : Stmt := top 23
abbrev N_l_draw : List Str := ["_law_cell", "_law_k", "_law_most", "_law_primes"]
theorem sc_l_draw : FnScope N_l_draw ["_law_cell", "_law_k", "_law_most"] (defScope s_l_draw) := ⟨rfl, rfl, rfl, by decide +kernel, rfl, by decide +kernel, by decide +kernel⟩
theorem bd_l_draw {k : Nat} (t : Top K mg T) : Bd P w K mg base T k N_l_draw "_law_draw" s_l_draw (b_l_draw) := by
  intro f cdv A outer s0 H E B hr C po tk
  unfold b_l_draw
  exact vss_cons (vs_set 3 C (ve_tup (va_cons (ve_int) (va_cons (ve_int) (va_cons (ve_int) (va_cons (ve_int) (va_cons (ve_int) (va_cons (ve_int) (va_cons (ve_int) (va_cons (ve_int) (va_cons (ve_int) (va_cons (ve_int) (va_cons (ve_int) (va_cons (ve_int) (va_cons (ve_int) (va_cons (ve_int) (va_cons (ve_int) (va_cons (ve_int) (va_nil))))))))))))))))))) (vss_one (vs_ret (ve_mod (ve_mod (ve_add (ve_mul (ve_var 0) (ve_int)) (ve_mul (ve_var 1) (ve_int))) (ve_ix (ve_var 3) (ve_mod (ve_var 1) (ve_int)))) (ve_var 2))))
theorem all_l_draw (t : Top K mg T) : ∀ k, Fn P w K mg base T k "_law_draw" 3 (m_l_draw k)
  | 0 => fn_zero t.d_l_draw rfl
  | k + 1 => fn_mk t.d_l_draw sc_l_draw (bd_l_draw t)
abbrev s_l_number_k01 : Stmt := top 24
abbrev N_l_number_k01 : List Str := ["_law_cell", "_law_k", "_law_limit"]
theorem sc_l_number_k01 : FnScope N_l_number_k01 ["_law_cell", "_law_k", "_law_limit"] (defScope s_l_number_k01) := ⟨rfl, rfl, rfl, by decide +kernel, rfl, by decide +kernel, by decide +kernel⟩
theorem bd_l_number_k01 {k : Nat} {c_l_draw : List SV → R} (t : Top K mg T) (h_l_draw : Fn P w K mg base T k "_law_draw" 3 c_l_draw) : Bd P w K mg base T k N_l_number_k01 "_law_number" s_l_number_k01 (b_l_number_k01 c_l_draw) := by
  intro f cdv A outer s0 H E B hr C po tk
  unfold b_l_number_k01
  exact vss_cons (vs_if (vt_cm c_ge (ve_var 0) (ve_pow (ve_int) (ve_int))) (vss_one (vs_ret (ve_mod (ve_fdiv (ve_sub (ve_var 0) (ve_pow (ve_int) (ve_int))) (ve_ix (ve_tup (va_cons (ve_int) (va_cons (ve_int) (va_cons (ve_int) (va_cons (ve_int) (va_cons (ve_int) (va_nil))))))) (ve_mod (ve_var 1) (ve_int)))) (ve_var 2)))) (vss_nil)) (vss_one (vs_ret (ve_mod (ve_callF h_l_draw hr rfl C (va_cons (ve_mul (ve_add (ve_var 0) (ve_mul (ve_int) (ve_var 1))) (ve_add (ve_add (ve_var 0) (ve_mul (ve_int) (ve_var 1))) (ve_int))) (va_cons (ve_add (ve_mod (ve_var 1) (ve_int)) (ve_int)) (va_cons (ve_int) (va_nil))))) (ve_var 2))))
theorem all_l_number_k01 (t : Top K mg T) : ∀ k, Fn P w K mg base T k "_law_number" 3 (m_l_number_k01 k)
  | 0 => fn_zero t.d_l_number_k01 rfl
  | k + 1 => fn_mk t.d_l_number_k01 sc_l_number_k01 (bd_l_number_k01 t (all_l_draw t k))
abbrev s_l_row : Stmt := top 25
abbrev N_l_row : List Str := ["_law_script", "_law_by", "_law_most", "_law_wide", "_law_found", "_law_k"]
theorem sc_l_row : FnScope N_l_row ["_law_script", "_law_by", "_law_most", "_law_wide"] (defScope s_l_row) := ⟨rfl, rfl, rfl, by decide +kernel, rfl, by decide +kernel, by decide +kernel⟩
theorem bd_l_row {k : Nat} {c_l_cell_at : List SV → R} {c_l_number_k01 : List SV → R} (t : Top K mg T) (h_l_cell_at : Fn P w K mg base T k "_law_cell_at" 2 c_l_cell_at) (h_l_number_k01 : Fn P w K mg base T k "_law_number" 3 c_l_number_k01) : Bd P w K mg base T k N_l_row "_law_row" s_l_row (b_l_row c_l_cell_at c_l_number_k01) := by
  intro f cdv A outer s0 H E B hr C po tk
  unfold b_l_row p_l_row_1
  exact vss_cons (vs_own 4 C (ve_lst (va_nil))) (vss_cons (vs_for C po (vi_range1 ⟨rfl, t.b_range⟩ (va_cons (ve_callF h_l_number_k01 hr rfl C (va_cons (ve_callF h_l_cell_at hr rfl C (va_cons (ve_var 0) (va_cons (ve_var 1) (va_nil)))) (va_cons (ve_var 1) (va_cons (ve_add (ve_var 2) (ve_int)) (va_nil))))) (va_nil))) tr_name (pg_name (i := 5) C.nd rfl (by first | exact Or.inl rfl | exact Or.inr rfl)) (vss_one (vs_app 4 (ve_sub (ve_callF h_l_number_k01 hr rfl C (va_cons (ve_add (ve_callF h_l_cell_at hr rfl C (va_cons (ve_var 0) (va_cons (ve_add (ve_add (ve_var 1) (ve_var 5)) (ve_int)) (va_nil)))) (ve_mul (ve_int) (ve_var 5))) (va_cons (ve_add (ve_add (ve_var 5) (ve_var 1)) (ve_int)) (va_cons (ve_var 3) (va_nil))))) (ve_fdiv (ve_var 3) (ve_int)))))) (vss_one (vs_retO 4)))
theorem all_l_row (t : Top K mg T) : ∀ k, Fn P w K mg base T k "_law_row" 4 (m_l_row k)
  | 0 => fn_zero t.d_l_row rfl
  | k + 1 => fn_mk t.d_l_row sc_l_row (bd_l_row t (all_l_cell_at t k) (all_l_number_k01 t k))
abbrev s_l_whole : Stmt := top 26
abbrev N_l_whole : List Str := ["_law_found"]
theorem sc_l_whole : FnScope N_l_whole ["_law_found"] (defScope s_l_whole) := ⟨rfl, rfl, rfl, by decide +kernel, rfl, by decide +kernel, by decide +kernel⟩
theorem bd_l_whole {k : Nat} (t : Top K mg T) : Bd P w K mg base T k N_l_whole "_law_whole" s_l_whole (b_l_whole) := by
  intro f cdv A outer s0 H E B hr C po tk
  unfold b_l_whole
  exact vss_one (vs_ret (ve_and (ve_isi ty_int ⟨rfl, t.b_isinstance⟩ ⟨rfl, t.b_int⟩ (by decide +kernel) (ve_var 0)) (ve_one (ve_not (ve_isi ty_bool ⟨rfl, t.b_isinstance⟩ ⟨rfl, t.b_bool⟩ (by decide +kernel) (ve_var 0))))))
theorem all_l_whole (t : Top K mg T) : ∀ k, Fn P w K mg base T k "_law_whole" 1 (m_l_whole k)
  | 0 => fn_zero t.d_l_whole rfl
  | k + 1 => fn_mk t.d_l_whole sc_l_whole (bd_l_whole t)
abbrev s_l_ones : Stmt := top 27
abbrev N_l_ones : List Str := ["_law_number_here", "_law_found"]
theorem sc_l_ones : FnScope N_l_ones ["_law_number_here"] (defScope s_l_ones) := ⟨rfl, rfl, rfl, by decide +kernel, rfl, by decide +kernel, by decide +kernel⟩
theorem bd_l_ones {k : Nat} (t : Top K mg T) : Bd P w K mg base T k N_l_ones "_law_ones" s_l_ones (b_l_ones) := by
  intro f cdv A outer s0 H E B hr C po tk
  unfold b_l_ones p_l_ones_2 p_l_ones_1
  exact vss_cons (vs_set 1 C (ve_int)) (vss_cons (vs_while WF po (vt_cm c_gt (ve_var 0) (ve_int)) (vss_one (vs_par2 0 1 false false C (ve_fdiv (ve_var 0) (ve_int)) (ve_add (ve_var 1) (ve_mod (ve_var 0) (ve_int)))))) (vss_one (vs_ret (ve_var 1))))
theorem all_l_ones (t : Top K mg T) : ∀ k, Fn P w K mg base T k "_law_ones" 1 (m_l_ones k)
  | 0 => fn_zero t.d_l_ones rfl
  | k + 1 => fn_mk t.d_l_ones sc_l_ones (bd_l_ones t)
abbrev s_l_is_order : Stmt := top 28
abbrev N_l_is_order : List Str := ["_law_tree", "_law_order", "_law_least", "_law_at", "_law_child"]
theorem sc_l_is_order : FnScope N_l_is_order ["_law_tree", "_law_order", "_law_least"] (defScope s_l_is_order) := ⟨rfl, rfl, rfl, by decide +kernel, rfl, by decide +kernel, by decide +kernel⟩
theorem bd_l_is_order {k : Nat} {c_l_whole : List SV → R} {c_l_is_order : List SV → R} (t : Top K mg T) (h_l_whole : Fn P w K mg base T k "_law_whole" 1 c_l_whole) (h_l_is_order : Fn P w K mg base T k "_law_is_order" 3 c_l_is_order) : Bd P w K mg base T k N_l_is_order "_law_is_order" s_l_is_order (b_l_is_order c_l_whole c_l_is_order) := by
  intro f cdv A outer s0 H E B hr C po tk
  unfold b_l_is_order
  exact vss_cons (vs_if (vt_w (vw_or (vt_not (vt_val (ve_isi ty_tuple ⟨rfl, t.b_isinstance⟩ ⟨rfl, t.b_tuple⟩ (by decide +kernel) (ve_var 0)))) (vw_or (vt_cm (c_ne C) (ve_len ⟨rfl, t.b_len⟩ (ve_var 0)) (ve_int)) (vw_or (vt_not (vt_val (ve_callF h_l_whole hr rfl C (va_cons (ve_ix (ve_var 0) (ve_int)) (va_nil))))) (vw_or1 (vt_cm c_lt (ve_ix (ve_var 0) (ve_int)) (ve_var 2))))))) (vss_one (vs_ret (ve_bl))) (vss_nil)) (vss_cons (vs_if (vt_w (vw_or (vt_not (vt_val (ve_isi ty_list ⟨rfl, t.b_isinstance⟩ ⟨rfl, t.b_list⟩ (by decide +kernel) (ve_ix (ve_var 0) (ve_int))))) (vw_or1 (vt_cm (c_ne C) (ve_len ⟨rfl, t.b_len⟩ (ve_ix (ve_var 0) (ve_int))) (ve_var 1))))) (vss_one (vs_ret (ve_bl))) (vss_nil)) (vss_one (vs_ret (ve_all C ⟨rfl, t.b_all⟩ (ve_lc (own := [("_law_at", 3), ("_law_child", 4)]) C (vi_enum ⟨rfl, t.b_enumerate⟩ (va_cons (ve_ix (ve_var 0) (ve_int)) (va_nil))) (blkOk_by (N := N_l_is_order) (sc := defScope s_l_is_order) (by decide +kernel)) tr_2 (fun _ _ _ _ _ => pg_tup rfl (pgs_cons (pg_name (i := 3) C.nd rfl (by first | exact Or.inl rfl | exact Or.inr rfl)) (pgs_cons (pg_name (i := 4) C.nd rfl (by first | exact Or.inl rfl | exact Or.inr rfl)) (pgs_nil)))) (fun _ _ _ _ _ => vts_nil) (fun _ _ _ _ _ => ve_callF h_l_is_order hr rfl C.blk (va_cons (ve_var 4) (va_cons (ve_sub (ve_sub (ve_var 1) (ve_int)) (ve_var 3)) (va_cons (ve_ix (ve_var 0) (ve_int)) (va_nil))))))))))
theorem all_l_is_order (t : Top K mg T) : ∀ k, Fn P w K mg base T k "_law_is_order" 3 (m_l_is_order k)
  | 0 => fn_zero t.d_l_is_order rfl
  | k + 1 => fn_mk t.d_l_is_order sc_l_is_order (bd_l_is_order t (all_l_whole t k) (all_l_is_order t k))
abbrev s_l_all_in : Stmt := top 29
abbrev N_l_all_in : List Str := ["_law_tree", "_law_found", "_law_child"]
theorem sc_l_all_in : FnScope N_l_all_in ["_law_tree"] (defScope s_l_all_in) := ⟨rfl, rfl, rfl, by decide +kernel, rfl, by decide +kernel, by decide +kernel⟩
theorem bd_l_all_in {k : Nat} {c_l_all_in : List SV → R} (t : Top K mg T) (h_l_all_in : Fn P w K mg base T k "_law_all_in" 1 c_l_all_in) : Bd P w K mg base T k N_l_all_in "_law_all_in" s_l_all_in (b_l_all_in c_l_all_in) := by
  intro f cdv A outer s0 H E B hr C po tk
  unfold b_l_all_in p_l_all_in_1
  exact vss_cons (vs_set 1 C (ve_lst (va_cons (ve_ix (ve_var 0) (ve_int)) (va_nil)))) (vss_cons (vs_for C po (vi_list (ve_ix (ve_var 0) (ve_int))) tr_name (pg_name (i := 2) C.nd rfl (by first | exact Or.inl rfl | exact Or.inr rfl)) (vss_one (vs_set 1 C (ve_add (ve_var 1) (ve_callF h_l_all_in hr rfl C (va_cons (ve_var 2) (va_nil))))))) (vss_one (vs_ret (ve_var 1))))
theorem all_l_all_in (t : Top K mg T) : ∀ k, Fn P w K mg base T k "_law_all_in" 1 (m_l_all_in k)
  | 0 => fn_zero t.d_l_all_in rfl
  | k + 1 => fn_mk t.d_l_all_in sc_l_all_in (bd_l_all_in t (all_l_all_in t k))
abbrev s_l_is_pile : Stmt := top 30
abbrev N_l_is_pile : List Str := ["_law_found", "_law_due", "_law_orders", "_law_every", "_law_tree", "_law_one", "_law_other"]
theorem sc_l_is_pile : FnScope N_l_is_pile ["_law_found", "_law_due"] (defScope s_l_is_pile) := ⟨rfl, rfl, rfl, by decide +kernel, rfl, by decide +kernel, by decide +kernel⟩
theorem bd_l_is_pile {k : Nat} {c_l_whole : List SV → R} {c_l_is_order : List SV → R} {c_l_all_in : List SV → R} (t : Top K mg T) (h_l_whole : Fn P w K mg base T k "_law_whole" 1 c_l_whole) (h_l_is_order : Fn P w K mg base T k "_law_is_order" 3 c_l_is_order) (h_l_all_in : Fn P w K mg base T k "_law_all_in" 1 c_l_all_in) : Bd P w K mg base T k N_l_is_pile "_law_is_pile" s_l_is_pile (b_l_is_pile c_l_whole c_l_is_order c_l_all_in) := by
  intro f cdv A outer s0 H E B hr C po tk
  unfold b_l_is_pile p_l_is_pile_1
  exact vss_cons (vs_if (vt_w (vw_or (vt_not (vt_val (ve_isi ty_list ⟨rfl, t.b_isinstance⟩ ⟨rfl, t.b_list⟩ (by decide +kernel) (ve_var 0)))) (vw_or1 (vt_not (vt_val (ve_all C ⟨rfl, t.b_all⟩ (ve_lc (own := [("_law_tree", 4)]) C (vi_list (ve_var 0)) (blkOk_by (N := N_l_is_pile) (sc := defScope s_l_is_pile) (by decide +kernel)) tr_name (fun _ _ _ _ _ => pg_name (i := 4) C.nd rfl (by first | exact Or.inl rfl | exact Or.inr rfl)) (fun _ _ _ _ _ => vts_nil) (fun _ _ _ _ _ => ve_and (ve_isi ty_tuple ⟨rfl, t.b_isinstance⟩ ⟨rfl, t.b_tuple⟩ (by decide +kernel) (ve_var 4)) (ve_one (ve_cm (c_eq C.blk) (ve_len ⟨rfl, t.b_len⟩ (ve_var 4)) (ve_int))))))))))) (vss_one (vs_ret (ve_bl))) (vss_nil)) (vss_cons (vs_if (vt_not (vt_val (ve_all C ⟨rfl, t.b_all⟩ (ve_lc (own := [("_law_tree", 4)]) C (vi_list (ve_var 0)) (blkOk_by (N := N_l_is_pile) (sc := defScope s_l_is_pile) (by decide +kernel)) tr_name (fun _ _ _ _ _ => pg_name (i := 4) C.nd rfl (by first | exact Or.inl rfl | exact Or.inr rfl)) (fun _ _ _ _ _ => vts_nil) (fun _ _ _ _ _ => ve_isi ty_list ⟨rfl, t.b_isinstance⟩ ⟨rfl, t.b_list⟩ (by decide +kernel) (ve_ix (ve_var 4) (ve_int))))))) (vss_one (vs_ret (ve_bl))) (vss_nil)) (vss_cons (vs_setLc 2 (own := [("_law_tree", 4)]) C (vi_list (ve_var 0)) (blkOk_by (N := N_l_is_pile) (sc := defScope s_l_is_pile) (by decide +kernel)) tr_name (fun _ _ _ _ _ => pg_name (i := 4) C.nd rfl (by first | exact Or.inl rfl | exact Or.inr rfl)) (fun _ _ _ _ _ => vts_nil) (fun _ _ _ _ _ => ve_len ⟨rfl, t.b_len⟩ (ve_ix (ve_var 4) (ve_int)))) (vss_cons (vs_if (vt_w (vw_or (vt_val (ve_any C ⟨rfl, t.b_any⟩ (ve_lc (own := [("_law_one", 5), ("_law_other", 6)]) C (vi_zip ⟨rfl, t.b_zip⟩ (va_cons (ve_var 2) (va_cons (ve_slL (ve_var 2) (ve_int)) (va_nil)))) (blkOk_by (N := N_l_is_pile) (sc := defScope s_l_is_pile) (by decide +kernel)) tr_2 (fun _ _ _ _ _ => pg_tup rfl (pgs_cons (pg_name (i := 5) C.nd rfl (by first | exact Or.inl rfl | exact Or.inr rfl)) (pgs_cons (pg_name (i := 6) C.nd rfl (by first | exact Or.inl rfl | exact Or.inr rfl)) (pgs_nil)))) (fun _ _ _ _ _ => vts_nil) (fun _ _ _ _ _ => ve_cm c_ge (ve_var 5) (ve_var 6))))) (vw_or1 (vt_cm c_gt (ve_max1 C ⟨rfl, t.b_max⟩ (ve_add (ve_var 2) (ve_lst (va_cons (ve_int) (va_nil))))) (ve_int))))) (vss_one (vs_ret (ve_bl))) (vss_nil)) (vss_cons (vs_if (vt_not (vt_val (ve_all C ⟨rfl, t.b_all⟩ (ve_lc (own := [("_law_tree", 4)]) C (vi_list (ve_var 0)) (blkOk_by (N := N_l_is_pile) (sc := defScope s_l_is_pile) (by decide +kernel)) tr_name (fun _ _ _ _ _ => pg_name (i := 4) C.nd rfl (by first | exact Or.inl rfl | exact Or.inr rfl)) (fun _ _ _ _ _ => vts_nil) (fun _ _ _ _ _ => ve_and (ve_callF h_l_whole hr rfl C.blk (va_cons (ve_ix (ve_var 4) (ve_int)) (va_nil))) (ve_one (ve_callF h_l_is_order hr rfl C.blk (va_cons (ve_var 4) (va_cons (ve_len ⟨rfl, t.b_len⟩ (ve_ix (ve_var 4) (ve_int))) (va_cons (ve_ix (ve_var 4) (ve_int)) (va_nil))))))))))) (vss_one (vs_ret (ve_bl))) (vss_nil)) (vss_cons (vs_set 3 C (ve_lst (va_nil))) (vss_cons (vs_for C po (vi_list (ve_var 0)) tr_name (pg_name (i := 4) C.nd rfl (by first | exact Or.inl rfl | exact Or.inr rfl)) (vss_one (vs_set 3 C (ve_add (ve_var 3) (ve_callF h_l_all_in hr rfl C (va_cons (ve_var 4) (va_nil))))))) (vss_one (vs_ret (ve_cm (c_eq C) (ve_sorted ⟨rfl, t.b_sorted⟩ (ve_var 3)) (ve_sorted ⟨rfl, t.b_sorted⟩ (ve_var 1)))))))))))
theorem all_l_is_pile (t : Top K mg T) : ∀ k, Fn P w K mg base T k "_law_is_pile" 2 (m_l_is_pile k)
  | 0 => fn_zero t.d_l_is_pile rfl
  | k + 1 => fn_mk t.d_l_is_pile sc_l_is_pile (bd_l_is_pile t (all_l_whole t k) (all_l_is_order t k) (all_l_all_in t k))
abbrev s_l_same_tree : Stmt := top 31
abbrev N_l_same_tree : List Str := ["_law_tree", "_law_child"]
theorem sc_l_same_tree : FnScope N_l_same_tree ["_law_tree"] (defScope s_l_same_tree) := ⟨rfl, rfl, rfl, by decide +kernel, rfl, by decide +kernel, by decide +kernel⟩
theorem bd_l_same_tree {k : Nat} {c_l_same_tree : List SV → R} (t : Top K mg T) (h_l_same_tree : Fn P w K mg base T k "_law_same_tree" 1 c_l_same_tree) : Bd P w K mg base T k N_l_same_tree "_law_same_tree" s_l_same_tree (b_l_same_tree c_l_same_tree) := by
  intro f cdv A outer s0 H E B hr C po tk
  unfold b_l_same_tree
  exact vss_one (vs_ret (ve_tup (va_cons (ve_ix (ve_var 0) (ve_int)) (va_cons (ve_lc (own := [("_law_child", 1)]) C (vi_list (ve_ix (ve_var 0) (ve_int))) (blkOk_by (N := N_l_same_tree) (sc := defScope s_l_same_tree) (by decide +kernel)) tr_name (fun _ _ _ _ _ => pg_name (i := 1) C.nd rfl (by first | exact Or.inl rfl | exact Or.inr rfl)) (fun _ _ _ _ _ => vts_nil) (fun _ _ _ _ _ => ve_callF h_l_same_tree hr rfl C.blk (va_cons (ve_var 1) (va_nil)))) (va_nil)))))
theorem all_l_same_tree (t : Top K mg T) : ∀ k, Fn P w K mg base T k "_law_same_tree" 1 (m_l_same_tree k)
  | 0 => fn_zero t.d_l_same_tree rfl
  | k + 1 => fn_mk t.d_l_same_tree sc_l_same_tree (bd_l_same_tree t (all_l_same_tree t k))
abbrev s_l_same_k16 : Stmt := top 32
abbrev N_l_same_k16 : List Str := ["_law_pile", "_law_tree"]
theorem sc_l_same_k16 : FnScope N_l_same_k16 ["_law_pile"] (defScope s_l_same_k16) := ⟨rfl, rfl, rfl, by decide +kernel, rfl, by decide +kernel, by decide +kernel⟩
theorem bd_l_same_k16 {k : Nat} {c_l_same_tree : List SV → R} (t : Top K mg T) (h_l_same_tree : Fn P w K mg base T k "_law_same_tree" 1 c_l_same_tree) : Bd P w K mg base T k N_l_same_k16 "_law_same" s_l_same_k16 (b_l_same_k16 c_l_same_tree) := by
  intro f cdv A outer s0 H E B hr C po tk
  unfold b_l_same_k16
  exact vss_one (vs_ret (ve_lc (own := [("_law_tree", 1)]) C (vi_list (ve_var 0)) (blkOk_by (N := N_l_same_k16) (sc := defScope s_l_same_k16) (by decide +kernel)) tr_name (fun _ _ _ _ _ => pg_name (i := 1) C.nd rfl (by first | exact Or.inl rfl | exact Or.inr rfl)) (fun _ _ _ _ _ => vts_nil) (fun _ _ _ _ _ => ve_callF h_l_same_tree hr rfl C.blk (va_cons (ve_var 1) (va_nil)))))
theorem all_l_same_k16 (t : Top K mg T) : ∀ k, Fn P w K mg base T k "_law_same" 1 (m_l_same_k16 k)
  | 0 => fn_zero t.d_l_same_k16 rfl
  | k + 1 => fn_mk t.d_l_same_k16 sc_l_same_k16 (bd_l_same_k16 t (all_l_same_tree t k))
abbrev s_l_spoil : Stmt := top 33
abbrev N_l_spoil : List Str := ["_law_tree", "_law_child"]
theorem sc_l_spoil : FnScope N_l_spoil ["_law_tree"] (defScope s_l_spoil) := ⟨rfl, rfl, rfl, by decide +kernel, rfl, by decide +kernel, by decide +kernel⟩
theorem all_spoil (t : Top K mg T) : ∀ k, FnX P w K mg base k "_law_spoil" (spSp T k)
  | 0 => fx_zero t.d_l_spoil fun _ _ _ _ => spSp0
  | k + 1 => by
    have h_me : FnX P w K mg base k "_law_spoil" (spSp T k) := all_spoil t k
    obtain ⟨f, fd, F, hm, hbi⟩ := t.d_l_spoil
    refine ⟨f, fd, _, gx_mk (T := T) F sc_l_spoil (fun _ _ _ _ h => lnSp h) (fun cdv A outer s0 H E vs Q hr C po tk h => ?_), hm, F.kp, hbi⟩
    obtain ⟨x, rfl, h2⟩ := sp_core (K := K) h
    refine ⟨tSp T E K k, ?_, h2⟩
    unfold tSp tbSp
    exact pss_cons (ps_for po C.calm (pi_list (pe_ix L2.ix_tup (pe_var (i := 0) rfl (by first | exact Or.inl rfl | exact Or.inr (Or.inl rfl) | exact Or.inr (Or.inr rfl))) pe_int (by intro _ _; rfl))) (pg_name (i := 1) C.nd rfl (by first | exact Or.inl rfl | exact Or.inr rfl)) (pss_one (ps_expr (pe_callX h_me hr rfl C (pa_cons (pe_var (i := 1) rfl (by first | exact Or.inl rfl | exact Or.inr (Or.inl rfl) | exact Or.inr (Or.inr rfl))) pa_nil rfl)) rfl)))
      (pss_one (ps_expr (pe_bm PySem.F.plainAttrs_list PySem.F.slot_list_append PySem.F.type_list_append mt_append (pe_ix L2.ix_tup (pe_var (i := 0) rfl (by first | exact Or.inl rfl | exact Or.inr (Or.inl rfl) | exact Or.inr (Or.inr rfl))) pe_int (by intro _ _; rfl)) (pa_cons pe_int pa_nil rfl) rfl rfl rfl rfl rfl) rfl))
theorem allX_linked (t : Top K mg T) (k : Nat) : FnX P w K mg base (k + 1) "linked" (spLk T) := by
  obtain ⟨f, fd, F, hm, hbi⟩ := t.d_linked
  refine ⟨f, fd, _, gx_mk (T := T) F sc_linked (fun _ _ _ _ h => lnLk h) (fun cdv A outer s0 H E vs Q hr C po tk h => ?_), hm, F.kp, hbi⟩
  obtain ⟨x, y, rfl, h2⟩ := lk_core (K := K) t.hme h
  refine ⟨tLk T E K, ?_, h2⟩
  exact pss_cons (ps_if (vt_cm c_lt (ve_ix (ve_var 1) (ve_int)) (ve_ix (ve_var 0) (ve_int))) (pss_one (ps_par (i := 0) (j := 1) C.calm C.nd rfl rfl (by decide) rfl rfl (pa_cons (pe_var (i := 1) rfl (by first | exact Or.inl rfl | exact Or.inr (Or.inl rfl) | exact Or.inr (Or.inr rfl))) (pa_cons (pe_var (i := 0) rfl (by first | exact Or.inl rfl | exact Or.inr (Or.inl rfl) | exact Or.inr (Or.inr rfl))) pa_nil rfl) rfl) rfl)) pss_nil)
    (pss_one (ps_ret (pe_tup (pa_cons (ve_ix (ve_var 0) ve_int) (pa_cons (pe_op op_catR (pe_lst (pa_cons (pe_var (i := 1) rfl (by first | exact Or.inl rfl | exact Or.inr (Or.inl rfl) | exact Or.inr (Or.inr rfl))) pa_nil rfl)) (pe_ix L2.ix_tup (pe_var (i := 0) rfl (by first | exact Or.inl rfl | exact Or.inr (Or.inl rfl) | exact Or.inr (Or.inr rfl))) ve_int (by intro _ _; rfl))) pa_nil rfl) rfl))))
theorem gx_joinP (t : Top K mg T) (k : Nat) {f : Addr} {fd : FuncData} (F : Fun K "joined_of" "joined_of" s_joinP f fd) : FnGd P w K mg base (L2.CX P w) (k + 2) f fd ["one", "other"] (spJ T) := by
  have h_order_of : Fn P w K mg base T (k + 1) "order_of" 1 (m_order_of (k + 1)) := all_order_of t (k + 1)
  have h_linked : FnX P w K mg base (k + 1) "linked" (spLk T) := allX_linked t k
  refine gx_mk (T := T) F sc_joinP (fun _ _ _ _ h => lnJ h) (fun cdv A outer s0 H E vs Q hr C po tk h => ?_)
  obtain ⟨x, y, rfl, h2⟩ := j_core (K := K) t.hme (order_tr k) (high_tr k) h
  refine ⟨tJ T E K (m_order_of (k + 1)), ?_, h2⟩
  unfold tJ tJBody tJSome tJLink tJExt fHigh
  exact pss_cons (ps_par3 (i := 2) (j := 3) (l := 4) C.calm C.nd rfl rfl rfl (by decide) (by decide) (by decide) rfl rfl rfl (pa_cons (pe_lst pa_nil) (pa_cons (pe_lst pa_nil) (pa_cons ve_int pa_nil rfl) rfl) rfl) rfl)
    (pss_cons (ps_asg (ve_max1 C ⟨rfl, t.b_max⟩ (ve_add (ve_lc (own := [("tree", 8)]) C (vi_list (ve_add (ve_var 0) (ve_var 1))) (blkOk_by (N := N_joinP) (sc := defScope s_joinP) (by decide +kernel)) tr_name (fun _ _ _ _ _ => (pg_name (i := 8) C.nd rfl (by first | exact Or.inl rfl | exact Or.inr rfl))) (fun _ _ _ _ _ => vts_nil) (fun _ _ _ _ _ => ve_callF h_order_of hr rfl C.blk (va_cons (ve_var 8) (va_nil)))) (ve_lst (va_cons (ve_neg (ve_int)) (va_nil))))) (pg_name (i := 5) C.nd rfl (by first | exact Or.inl rfl | exact Or.inr rfl)))
    (pss_cons (ps_for po C.calm (pi_range1 rfl t.b_range (pa_cons (ve_add (ve_var 5) ve_int) pa_nil rfl)) (pg_name (i := 6) C.nd rfl (by first | exact Or.inl rfl | exact Or.inr rfl))
      (pss_cons (ps_asg (pe_op op_catR (pe_lc (own := [("tree", 8)]) C.calm C.nd (pi_list (pe_op op_catR (pe_var (i := 0) rfl (by first | exact Or.inl rfl | exact Or.inr (Or.inl rfl) | exact Or.inr (Or.inr rfl))) (pe_var (i := 1) rfl (by first | exact Or.inl rfl | exact Or.inr (Or.inl rfl) | exact Or.inr (Or.inr rfl))))) (blkOk_by (N := N_joinP) (sc := defScope s_joinP) (by decide +kernel)) (fun _ _ _ _ _ => (pg_name (i := 8) C.nd rfl (by first | exact Or.inl rfl | exact Or.inr rfl))) (fun _ _ _ _ _ => vts_one (vt_cm (c_eq C.blk) (ve_callF h_order_of hr rfl C.blk (va_cons (ve_var 8) (va_nil))) (ve_var 6))) (fun _ _ _ _ _ => (pe_var (i := 8) rfl (by first | exact Or.inl rfl | exact Or.inr (Or.inl rfl) | exact Or.inr (Or.inr rfl))))) (pe_var (i := 3) rfl (by first | exact Or.inl rfl | exact Or.inr (Or.inl rfl) | exact Or.inr (Or.inr rfl)))) (pg_name (i := 7) C.nd rfl (by first | exact Or.inl rfl | exact Or.inr rfl)))
      (pss_cons (ps_asg (pe_lst pa_nil) (pg_name (i := 3) C.nd rfl (by first | exact Or.inl rfl | exact Or.inr rfl)))
      (pss_cons (ps_if (vt_cm c_gt (ve_len ⟨rfl, t.b_len⟩ (ve_var 7)) (ve_int))
        (pss_cons (ps_asg (pe_lst (pa_cons (pe_callX h_linked hr rfl C (pa_cons (pe_ix L2.ix_list (pe_var (i := 7) rfl (by first | exact Or.inl rfl | exact Or.inr (Or.inl rfl) | exact Or.inr (Or.inr rfl))) ve_int (by intro _ _; rfl)) (pa_cons (pe_ix L2.ix_list (pe_var (i := 7) rfl (by first | exact Or.inl rfl | exact Or.inr (Or.inl rfl) | exact Or.inr (Or.inr rfl))) ve_int (by intro _ _; rfl)) pa_nil rfl) rfl)) pa_nil rfl)) (pg_name (i := 3) C.nd rfl (by first | exact Or.inl rfl | exact Or.inr rfl)))
        (pss_cons (ps_asg (pe_slice sl_list (pe_var (i := 7) rfl (by first | exact Or.inl rfl | exact Or.inr (Or.inl rfl) | exact Or.inr (Or.inr rfl))) (po_some ve_int) po_none) (pg_name (i := 7) C.nd rfl (by first | exact Or.inl rfl | exact Or.inr rfl)))
        (pss_one (ps_aug (i := 4) C.nd rfl (by first | exact Or.inl rfl | exact Or.inr rfl) ve_int ip_add (by first | exact .inl rfl | exact .inr rfl))))) pss_nil)
      (pss_one (ps_expr (pe_bm PySem.F.plainAttrs_list PySem.F.slot_list_extend PySem.F.type_list_extend mt_extR (pe_var (i := 2) rfl (by first | exact Or.inl rfl | exact Or.inr (Or.inl rfl) | exact Or.inr (Or.inr rfl))) (pa_cons (pe_var (i := 7) rfl (by first | exact Or.inl rfl | exact Or.inr (Or.inl rfl) | exact Or.inr (Or.inr rfl))) pa_nil rfl) rfl rfl rfl rfl rfl) rfl))))))
    (pss_one (ps_ret (pe_tup (pa_cons (pe_var (i := 2) rfl (by first | exact Or.inl rfl | exact Or.inr (Or.inl rfl) | exact Or.inr (Or.inr rfl))) (pa_cons (pe_var (i := 4) rfl (by first | exact Or.inl rfl | exact Or.inr (Or.inl rfl) | exact Or.inr (Or.inr rfl))) pa_nil rfl) rfl))))))
theorem allX_joinP (t : Top K mg T) (k : Nat) : FnX P w K mg base (k + 2) "joined_of" (spJ T) := by
  obtain ⟨f, fd, F, hm, hbi⟩ := t.d_joinP
  exact ⟨f, fd, _, gx_joinP t k F, hm, F.kp, hbi⟩
theorem allX_copied (t : Top K mg T) : ∀ k, FnX P w K mg base k "copied" (spCp T k)
  | 0 => fx_zero t.d_copied fun _ _ _ _ => spCp0
  | k + 1 => by
    have h_me : FnX P w K mg base k "copied" (spCp T k) := allX_copied t k
    obtain ⟨f, fd, F, hm, hbi⟩ := t.d_copied
    refine ⟨f, fd, _, gx_mk (T := T) F sc_copied (fun _ _ _ _ h => lnCp h) (fun cdv A outer s0 H E vs Q hr C po tk h => ?_), hm, F.kp, hbi⟩
    obtain ⟨x, rfl, h2⟩ := cp_core (K := K) t.hme h
    refine ⟨tCp T E K k, ?_, h2⟩
    unfold tCp tCpLc
    exact pss_one (ps_ret (pe_tup (pa_cons (ve_ix (ve_var 0) ve_int) (pa_cons (pe_lc (own := [("child", 1)]) C.calm C.nd (pi_list (pe_ix L2.ix_tup (pe_var (i := 0) rfl (by first | exact Or.inl rfl | exact Or.inr (Or.inl rfl) | exact Or.inr (Or.inr rfl))) ve_int (by intro _ _; rfl))) (blkOk_by (N := N_copied) (sc := defScope s_copied) (by decide +kernel)) (fun _ _ _ _ _ => (pg_name (i := 1) C.nd rfl (by first | exact Or.inl rfl | exact Or.inr rfl))) (fun _ _ _ _ _ => vts_nil) (fun _ _ _ _ _ => pe_callX h_me hr rfl C.blk (pa_cons (pe_var (i := 1) rfl (by first | exact Or.inl rfl | exact Or.inr (Or.inl rfl) | exact Or.inr (Or.inr rfl))) pa_nil rfl))) pa_nil rfl) rfl)))
theorem gx_pile_put (t : Top K mg T) (k : Nat) {f : Addr} {fd : FuncData} (F : Fun K "pile_put" "pile_put" s_pile_put f fd) : FnGd P w K mg base (L2.CX P w) (k + 3) f fd ["pile", "key"] (spLo T (cdP (k + 2) (m_check_pile (k + 2)) (m_check_key (k + 2)) (m_count_of (k + 2)))) := by
  have h_check_pile : Fn P w K mg base T (k + 2) "check_pile" 1 (m_check_pile (k + 2)) := all_check_pile t (k + 2)
  have h_check_key : Fn P w K mg base T (k + 2) "check_key" 1 (m_check_key (k + 2)) := all_check_key t (k + 2)
  have h_count_of : Fn P w K mg base T (k + 2) "count_of" 1 (m_count_of (k + 2)) := all_count_of t (k + 2)
  have h_copied : FnX P w K mg base (k + 2) "copied" (spCp T (k + 2)) := allX_copied t (k + 2)
  have h_joinP : FnX P w K mg base (k + 2) "joined_of" (spJ T) := allX_joinP t k
  obtain ⟨tk_MOST, h_MOST⟩ := t.k_MOST
  refine gx_mk (T := T) F sc_pile_put (fun _ _ _ _ h => lnLo (n := 2) (fun as ⟨_, _, e, _⟩ => by rw [e]; rfl) h) (fun cdv A outer s0 H E vs Q hr C po tk h => ?_)
  obtain ⟨x, y, rfl, h2⟩ := pp_core (K := K) (tr := rdS T E B0 (sSeq (sRaise "TooMany") sNil)) t.hme h
  refine ⟨_, ?_, h2⟩
  unfold tPP tCpLc
  exact pss_cons (ps_expr (ve_callF h_check_pile hr rfl C (va_cons (ve_var 0) (va_nil)))) (pss_cons (ps_expr (ve_callF h_check_key hr rfl C (va_cons (ve_var 1) (va_nil)))) (pss_cons (ps_if (vt_cm c_gt (ve_add (ve_callF h_count_of hr rfl C (va_cons (ve_var 0) (va_nil))) ve_int) (ve_gint rfl h_MOST)) (vss_cons (vs_raiseE C tk t.e_TooMany rfl) vss_nil) pss_nil) (pss_one (ps_ret (pe_callX h_joinP hr rfl C (pa_cons (pe_lc (own := [("tree", 2)]) C.calm C.nd (pi_list (pe_var (i := 0) rfl (by first | exact Or.inl rfl | exact Or.inr (Or.inl rfl) | exact Or.inr (Or.inr rfl)))) (blkOk_by (N := N_pile_put) (sc := defScope s_pile_put) (by decide +kernel)) (fun _ _ _ _ _ => (pg_name (i := 2) C.nd rfl (by first | exact Or.inl rfl | exact Or.inr rfl))) (fun _ _ _ _ _ => vts_nil) (fun _ _ _ _ _ => pe_callX h_copied hr rfl C.blk (pa_cons (pe_var (i := 2) rfl (by first | exact Or.inl rfl | exact Or.inr (Or.inl rfl) | exact Or.inr (Or.inr rfl))) pa_nil rfl))) (pa_cons (pe_lst (pa_cons (pe_tup (pa_cons (pe_var (i := 1) rfl (by first | exact Or.inl rfl | exact Or.inr (Or.inl rfl) | exact Or.inr (Or.inr rfl))) (pa_cons (pe_lst pa_nil) pa_nil rfl) rfl)) pa_nil rfl)) pa_nil rfl) rfl))))))
theorem all_R_pile_put (t : Top K mg T) : ∀ k, Fn P w K mg base T k "pile_put" 2 (m_R_pile_put k)
  | 0 => fn_no t.d_pile_put rfl
  | 1 => fn_no t.d_pile_put rfl
  | 2 => fn_no t.d_pile_put rfl
  | k + 3 => fnR_mk t.d_pile_put sc_pile_put (bd_pile_put t (all_check_pile t (k + 2)) (all_check_key t (k + 2)) (all_count_of t (k + 2)) (all_copied t (k + 2)) (all_joinP t (k + 2))) fun f fd F => gx_pile_put t k F
theorem allXd_joinP (t : Top K mg T) (k : Nat) : FnX P w K mg base (k + 2) "joined_of" (spJd T (m_joinP (k + 2))) := by
  obtain ⟨f, fd, F, hm, hbi⟩ := t.d_joinP
  exact ⟨f, fd, _, jd_and t.hme (fn_ok F sc_joinP (fun cdv A outer s0 H E B hr C po tk => bd_joinP t (all_order_of t (k + 1)) (all_linked t (k + 1)) f cdv A outer s0 H E B hr C po tk)) (gx_joinP t k F), hm, F.kp, hbi⟩
theorem gx_pile_of (t : Top K mg T) (k : Nat) {f : Addr} {fd : FuncData} (F : Fun K "pile_of" "pile_of" s_pile_of f fd) : FnGd P w K mg base (L2.CX P w) (k + 3) f fd ["keys"] (spLo T (cdO (m_check_keys (k + 2)) (m_joinP (k + 2)))) := by
  have h_check_keys : Fn P w K mg base T (k + 2) "check_keys" 1 (m_check_keys (k + 2)) := all_check_keys t (k + 2)
  have h_joinP : FnX P w K mg base (k + 2) "joined_of" (spJd T (m_joinP (k + 2))) := allXd_joinP t k
  refine gx_mk (T := T) F sc_pile_of (fun _ _ _ _ h => lnLo (n := 1) (fun as ⟨_, e, _⟩ => by rw [e]; rfl) h) (fun cdv A outer s0 H E vs Q hr C po tk h => ?_)
  obtain ⟨x, rfl, h2⟩ := po_core (K := K) t.hme h
  refine ⟨_, ?_, h2⟩
  unfold tPO tPOb
  exact pss_cons (ps_expr (ve_callF h_check_keys hr rfl C (va_cons (ve_var 0) va_nil))) (pss_cons (ps_par (i := 1) (j := 2) C.calm C.nd rfl rfl (by decide) rfl rfl (pa_cons (pe_lst pa_nil) (pa_cons ve_int pa_nil rfl) rfl) rfl) (pss_cons (ps_for po C.calm (pi_list (pe_var (i := 0) rfl (by first | exact Or.inl rfl | exact Or.inr (Or.inl rfl) | exact Or.inr (Or.inr rfl)))) (pg_name (i := 3) C.nd rfl (by first | exact Or.inl rfl | exact Or.inr rfl)) (pss_cons (ps_asg (pe_callX h_joinP hr rfl C (pa_cons (pe_var (i := 1) rfl (by first | exact Or.inl rfl | exact Or.inr (Or.inl rfl) | exact Or.inr (Or.inr rfl))) (pa_cons (pe_lst (pa_cons (pe_tup (pa_cons (pe_var (i := 3) rfl (by first | exact Or.inl rfl | exact Or.inr (Or.inl rfl) | exact Or.inr (Or.inr rfl))) (pa_cons (pe_lst pa_nil) pa_nil rfl) rfl)) pa_nil rfl)) pa_nil rfl) rfl)) (pg_tup rfl (pgs_cons (pg_name (i := 1) C.nd rfl (by first | exact Or.inl rfl | exact Or.inr rfl)) (pgs_cons (pg_name (i := 4) C.nd rfl (by first | exact Or.inl rfl | exact Or.inr rfl)) pgs_nil)))) (pss_one (ps_aug (i := 2) C.nd rfl (by first | exact Or.inl rfl | exact Or.inr rfl) (pe_var (i := 4) rfl (by first | exact Or.inl rfl | exact Or.inr (Or.inl rfl) | exact Or.inr (Or.inr rfl))) ip_add (by first | exact .inl rfl | exact .inr rfl))))) (pss_one (ps_ret (pe_tup (pa_cons (pe_var (i := 1) rfl (by first | exact Or.inl rfl | exact Or.inr (Or.inl rfl) | exact Or.inr (Or.inr rfl))) (pa_cons (pe_var (i := 2) rfl (by first | exact Or.inl rfl | exact Or.inr (Or.inl rfl) | exact Or.inr (Or.inr rfl))) pa_nil rfl) rfl))))))
theorem all_R_pile_of (t : Top K mg T) : ∀ k, Fn P w K mg base T k "pile_of" 1 (m_R_pile_of k)
  | 0 => fn_no t.d_pile_of rfl
  | 1 => fn_no t.d_pile_of rfl
  | 2 => fn_no t.d_pile_of rfl
  | k + 3 => fnR_mk t.d_pile_of sc_pile_of (bd_pile_of t (all_check_keys t (k + 2)) (all_joinP t (k + 2))) fun f fd F => gx_pile_of t k F
abbrev s_l_right_k16 : Stmt := top 34
abbrev N_l_right_k16 : List Str := ["_law_row_here", "_law_pile", "_law_total", "_law_at", "_law_key", "_law_kept", "_law_found", "_law_tree", "_law_some", "_law_gone", "_law_rest", "_law_one", "_law_handed"]
theorem sc_l_right_k16 : FnScope N_l_right_k16 ["_law_row_here"] (defScope s_l_right_k16) := ⟨rfl, rfl, rfl, by decide +kernel, rfl, by decide +kernel, by decide +kernel⟩
theorem bd_l_right_k16 {k : Nat} {c_l_same_k16 : List SV → R} {c_pile_put : List SV → R} {c_l_whole : List SV → R} {c_l_is_pile : List SV → R} {c_l_ones : List SV → R} {c_R_pile_put : List SV → R} {c_l_all_in : List SV → R} {c_R_pile_of : List SV → R} {c_pile_of : List SV → R} (t : Top K mg T) (h_l_same_k16 : Fn P w K mg base T k "_law_same" 1 c_l_same_k16) (h_pile_put : Fn P w K mg base T k "pile_put" 2 c_pile_put) (h_l_whole : Fn P w K mg base T k "_law_whole" 1 c_l_whole) (h_l_is_pile : Fn P w K mg base T k "_law_is_pile" 2 c_l_is_pile) (h_l_ones : Fn P w K mg base T k "_law_ones" 1 c_l_ones) (h_spoil : FnX P w K mg base k "_law_spoil" (spSp T k)) (h_R_pile_put : Fn P w K mg base T k "pile_put" 2 c_R_pile_put) (h_l_all_in : Fn P w K mg base T k "_law_all_in" 1 c_l_all_in) (h_R_pile_of : Fn P w K mg base T k "pile_of" 1 c_R_pile_of) (h_pile_of : Fn P w K mg base T k "pile_of" 1 c_pile_of) : Bd P w K mg base T k N_l_right_k16 "_law_right" s_l_right_k16 (b_l_right_k16 c_l_same_k16 c_pile_put c_l_whole c_l_is_pile c_l_ones k c_R_pile_put c_l_all_in c_R_pile_of c_pile_of) := by
  intro f cdv A outer s0 H E B hr C po tk
  unfold b_l_right_k16 p_l_right_k16_2 p_l_right_k16_1
  exact vss_cons (vs_par2 1 2 false false C (ve_lst (va_nil)) (ve_int)) (vss_cons (vs_for C po (vi_enum ⟨rfl, t.b_enumerate⟩ (va_cons (ve_var 0) (va_nil))) tr_2 (pg_tup rfl (pgs_cons (pg_name (i := 3) C.nd rfl (by first | exact Or.inl rfl | exact Or.inr rfl)) (pgs_cons (pg_name (i := 4) C.nd rfl (by first | exact Or.inl rfl | exact Or.inr rfl)) (pgs_nil)))) (vss_cons (vs_set 5 C (ve_callF h_l_same_k16 hr rfl C (va_cons (ve_var 1) (va_nil)))) (vss_cons (vs_set 6 C (ve_callF h_pile_put hr rfl C (va_cons (ve_var 1) (va_cons (ve_var 4) (va_nil))))) (vss_cons (vs_if (vt_w (vw_or (vt_not (vt_val (ve_isi ty_tuple ⟨rfl, t.b_isinstance⟩ ⟨rfl, t.b_tuple⟩ (by decide +kernel) (ve_var 6)))) (vw_or (vt_cm (c_ne C) (ve_len ⟨rfl, t.b_len⟩ (ve_var 6)) (ve_int)) (vw_or (vt_not (vt_val (ve_callF h_l_whole hr rfl C (va_cons (ve_ix (ve_var 6) (ve_int)) (va_nil))))) (vw_or1 (vt_cm (c_ne C) (ve_var 1) (ve_var 5))))))) (vss_one (vs_ret (ve_bl))) (vss_nil)) (vss_cons (vs_if (vt_w (vw_or (vt_not (vt_val (ve_callF h_l_is_pile hr rfl C (va_cons (ve_ix (ve_var 6) (ve_int)) (va_cons (ve_slH (ve_var 0) (ve_add (ve_var 3) (ve_int))) (va_nil)))))) (vw_or1 (vt_cm (c_ne C) (ve_ix (ve_var 6) (ve_int)) (ve_sub (ve_add (ve_int) (ve_callF h_l_ones hr rfl C (va_cons (ve_var 3) (va_nil)))) (ve_callF h_l_ones hr rfl C (va_cons (ve_add (ve_var 3) (ve_int)) (va_nil)))))))) (vss_one (vs_ret (ve_bl))) (vss_nil)) (vss_cons (vs_spE 0 7 C po h_spoil hr rfl (ve_callF h_R_pile_put hr rfl C (va_cons (ve_var 1) (va_cons (ve_var 4) (va_nil))))) (vss_cons (vs_if (vt_cm (c_ne C) (ve_var 1) (ve_var 5)) (vss_one (vs_ret (ve_bl))) (vss_nil)) (vss_cons (vs_par2 1 2 false false C (ve_ix (ve_var 6) (ve_int)) (ve_add (ve_var 2) (ve_ix (ve_var 6) (ve_int)))) (vss_one (vs_if (vt_cm (c_eq C) (ve_mod (ve_var 3) (ve_int)) (ve_int)) (vss_cons (vs_own 8 C (ve_callF h_l_same_k16 hr rfl C (va_cons (ve_var 1) (va_nil)))) (vss_cons (vs_expr (ve_bor 8 (ve_callF h_R_pile_put hr rfl C (va_cons (ve_var 8) (va_cons (ve_var 4) (va_nil)))))) (vss_cons (vs_popCal 9 8 C h_l_all_in hr rfl) (vss_cons (vs_own 10 C (ve_sorted ⟨rfl, t.b_sorted⟩ (ve_slH (ve_var 0) (ve_add (ve_var 3) (ve_int))))) (vss_cons (vs_for C po (vi_list (ve_var 9)) tr_name (pg_name (i := 11) C.nd rfl (by first | exact Or.inl rfl | exact Or.inr rfl)) (vss_one (vs_rem 10 (ve_var 11)))) (vss_one (vs_frz 8 (vs_frz 10 (vs_if (vt_not (vt_val (ve_callF h_l_is_pile hr rfl C (va_cons (ve_ix (ve_callF h_pile_put hr rfl C (va_cons (ve_var 8) (va_cons (ve_var 4) (va_nil)))) (ve_int)) (va_cons (ve_add (ve_var 10) (ve_lst (va_cons (ve_var 4) (va_nil)))) (va_nil)))))) (vss_one (vs_ret (ve_bl))) (vss_nil)))))))))) (vss_nil))))))))))) (vss_cons (vs_set 12 C (ve_list ⟨rfl, t.b_list⟩ (ve_var 0))) (vss_cons (vs_rg 6 C (ve_callF h_R_pile_of hr rfl C (va_cons (ve_var 12) (va_nil)))) (vss_cons (vs_if (vt_w (vw_or (vt_not (vt_val (ve_bor 6 (ve_isi ty_tuple ⟨rfl, t.b_isinstance⟩ ⟨rfl, t.b_tuple⟩ (by decide +kernel) (ve_var 6))))) (vw_or (vt_cm (c_ne C) (ve_bor 6 (ve_len ⟨rfl, t.b_len⟩ (ve_var 6))) (ve_int)) (vw_or (vt_not (vt_val (ve_bor 6 (ve_callF h_l_whole hr rfl C (va_cons (ve_ix (ve_var 6) (ve_int)) (va_nil)))))) (vw_or1 (vt_cm (c_ne C) (ve_var 12) (ve_var 0))))))) (vss_one (vs_ret (ve_bl))) (vss_nil)) (vss_cons (vs_if (vt_w (vw_or (vt_not (vt_val (ve_bor 6 (ve_callF h_l_is_pile hr rfl C (va_cons (ve_ix (ve_var 6) (ve_int)) (va_cons (ve_var 0) (va_nil))))))) (vw_or (vt_bor 6 (vt_cm (c_ne C) (ve_ix (ve_var 6) (ve_int)) (ve_var 2))) (vw_or1 (vt_cm (c_ne C) (ve_var 2) (ve_sub (ve_len ⟨rfl, t.b_len⟩ (ve_var 0)) (ve_callF h_l_ones hr rfl C (va_cons (ve_len ⟨rfl, t.b_len⟩ (ve_var 0)) (va_nil))))))))) (vss_one (vs_ret (ve_bl))) (vss_nil)) (vss_cons (vs_appT 6 0) (vss_one (vs_ret (ve_callF h_l_is_pile hr rfl C (va_cons (ve_ix (ve_callF h_pile_of hr rfl C (va_cons (ve_var 12) (va_nil))) (ve_int)) (va_cons (ve_var 0) (va_nil))))))))))))
theorem all_l_right_k16 (t : Top K mg T) : ∀ k, Fn P w K mg base T k "_law_right" 1 (m_l_right_k16 k)
  | 0 => fn_zero t.d_l_right_k16 rfl
  | k + 1 => fn_mk t.d_l_right_k16 sc_l_right_k16 (bd_l_right_k16 t (all_l_same_k16 t k) (all_pile_put t k) (all_l_whole t k) (all_l_is_pile t k) (all_l_ones t k) (all_spoil t k) (all_R_pile_put t k) (all_l_all_in t k) (all_R_pile_of t k) (all_pile_of t k))
abbrev s_law_k16 : Stmt := top 35
abbrev N_law_k16 : List Str := ["_law_script", "_law_by", "_law_row_here", "_law_some"]
theorem sc_law_k16 : FnScope N_law_k16 ["_law_script"] (defScope s_law_k16) := ⟨rfl, rfl, rfl, by decide +kernel, rfl, by decide +kernel, by decide +kernel⟩
theorem bd_law_k16 {k : Nat} {c_l_row : List SV → R} {c_l_right_k16 : List SV → R} {c_pile_of : List SV → R} {c_pile_put : List SV → R} (t : Top K mg T) (h_l_row : Fn P w K mg base T k "_law_row" 4 c_l_row) (h_l_right_k16 : Fn P w K mg base T k "_law_right" 1 c_l_right_k16) (h_pile_of : Fn P w K mg base T k "pile_of" 1 c_pile_of) (h_pile_put : Fn P w K mg base T k "pile_put" 2 c_pile_put) : Bd P w K mg base T k N_law_k16 "law" s_law_k16 (b_law_k16 c_l_row c_l_right_k16 c_pile_of c_pile_put) := by
  intro f cdv A outer s0 H E B hr C po tk
  unfold b_law_k16 p_law_k16_2 p_law_k16_1
  exact vss_cons (vs_for C po (vi_range3 ⟨rfl, t.b_range⟩ (va_cons (ve_int) (va_cons (ve_max2 C ⟨rfl, t.b_max⟩ (ve_int) (ve_min2 C ⟨rfl, t.b_min⟩ (ve_int) (ve_len ⟨rfl, t.b_len⟩ (ve_var 0)))) (va_cons (ve_int) (va_nil))))) tr_name (pg_name (i := 1) C.nd rfl (by first | exact Or.inl rfl | exact Or.inr rfl)) (vss_cons (vs_set 2 C (ve_callF h_l_row hr rfl C (va_cons (ve_var 0) (va_cons (ve_var 1) (va_cons (ve_int) (va_cons (ve_ix (ve_tup (va_cons (ve_int) (va_cons (ve_int) (va_cons (ve_pow (ve_int) (ve_int)) (va_nil))))) (ve_mod (ve_fdiv (ve_var 1) (ve_int)) (ve_int))) (va_nil))))))) (vss_one (vs_for C po (vi_tup (ve_tup (va_cons (ve_var 2) (va_cons (ve_sorted ⟨rfl, t.b_sorted⟩ (ve_var 2)) (va_cons (ve_rev (ve_sorted ⟨rfl, t.b_sorted⟩ (ve_var 2))) (va_nil)))))) tr_name (pg_name (i := 3) C.nd rfl (by first | exact Or.inl rfl | exact Or.inr rfl)) (vss_one (vs_if (vt_not (vt_val (ve_callF h_l_right_k16 hr rfl C (va_cons (ve_var 3) (va_nil))))) (vss_one (vs_ret (ve_bl))) (vss_nil))))))) (vss_one (vs_ret (ve_and (ve_cm (c_eq C) (ve_callF h_pile_of hr rfl C (va_cons (ve_lst (va_nil)) (va_nil))) (ve_tup (va_cons (ve_lst (va_nil)) (va_cons (ve_int) (va_nil))))) (ve_and (ve_cm (c_eq C) (ve_callF h_pile_of hr rfl C (va_cons (ve_lst (va_cons (ve_int) (va_cons (ve_int) (va_nil)))) (va_nil))) (ve_tup (va_cons (ve_lst (va_cons (ve_tup (va_cons (ve_int) (va_cons (ve_lst (va_cons (ve_tup (va_cons (ve_int) (va_cons (ve_lst (va_nil)) (va_nil)))) (va_nil))) (va_nil)))) (va_nil))) (va_cons (ve_int) (va_nil))))) (ve_one (ve_cm (c_eq C) (ve_callF h_pile_put hr rfl C (va_cons (ve_lst (va_nil)) (va_cons (ve_int) (va_nil)))) (ve_tup (va_cons (ve_lst (va_cons (ve_tup (va_cons (ve_int) (va_cons (ve_lst (va_nil)) (va_nil)))) (va_nil))) (va_cons (ve_int) (va_nil))))))))))
theorem all_law_k16 (t : Top K mg T) : ∀ k, Fn P w K mg base T k "law" 1 (m_law_k16 k)
  | 0 => fn_zero t.d_law_k16 rfl
  | k + 1 => fn_mk t.d_law_k16 sc_law_k16 (bd_law_k16 t (all_l_row t k) (all_l_right_k16 t k) (all_pile_of t k) (all_pile_put t k))
end
theorem law_fin {P : Program} {w : World} {K : PySem.W.Frag} {mg : Str → Option Value} {k : Nat} (t : Top K mg (ctOf mg)) {fa : Addr} (hfa : mg "law" = some (.ref fa)) (hm : ∀ ns : List Int, ns.length ≤ 63 → (∀ z ∈ ns, Builtin.Int.intBits z ≤ 1048576) → m_law_k16 (k + 1) [.sh (.list (ns.map .int))] = .val (.sh (.bool true))) :
    ∃ fd : FuncData, (∀ (s : Shared) (u : Value), BindsTo s fd ⟨[u], []⟩ [("_law_script", u)]) ∧ ∀ base : Heap, FnGd P w K mg base (L2.CX P w) (k + 1) fa fd ["_law_script"] spLaw := by
  obtain ⟨f, fd, F, hm2, hb⟩ := t.d_law_k16
  have e := hfa.symm.trans hm2
  cases e
  refine ⟨fd, fun s u => ?_, fun base => FnGd.weak (fn_ok F sc_law_k16 (fun cdv A outer s0 H E B hr C po tk => bd_law_k16 t (all_l_row t k) (all_l_right_k16 t k) (all_pile_of t k) (all_pile_put t k) fa cdv A outer s0 H E B hr C po tk)) (law_imp rfl hm)⟩
  obtain ⟨_, _, _, _, _, _, _, _, _, rfl, _, _⟩ := F.ex
  exact .of_eq rfl

abbrev LEVEL : Nat := 100
theorem law_main : ∀ ns : List Int, ns.length ≤ 63 → (∀ z ∈ ns, bits z ≤ 1048576) → m_law_k16 (LEVEL + 1) [.sh (.list (ns.map .int))] = .val (.sh (.bool true)) := law_main_k16
theorem fin_of {P : Program} {w : World} {K : PySem.W.Frag} {mg : Str → Option Value} {fa : Addr} (hfa : mg "law" = some (.ref fa)) (t : Top K mg (ctOf mg)) :
    ∃ fd : FuncData, (∀ (s : Shared) (u : Value), BindsTo s fd ⟨[u], []⟩ [("_law_script", u)]) ∧ ∀ base : Heap, K.In base → FnGd P w K mg base (L2.CX P w) (LEVEL + 1) fa fd ["_law_script"] spLaw := by
  obtain ⟨fd, h1, h2⟩ := law_fin (P := P) (w := w) (k := LEVEL) t hfa law_main
  exact ⟨fd, h1, fun base _ => h2 base⟩

end HM
open PySem PySem.W PyProof.Rows
set_option maxRecDepth 100000 in
set_option maxHeartbeats 0 in
theorem PySem.Challenge.cw_heapmeld_k16_whole_pile_put_holds : PySem.Challenge.rw_heapmeld_k16_whole_pile_put.Holds := by
  w_on; o_law; k_head; (case hw => w_witness2)
  k_fill
  refine VL.walk (l := PySem.Challenge.rw_heapmeld_k16_whole_pile_put) (k := HM.LEVEL + 1) ⟨rfl, by decide, by decide⟩ rfl rfl (fun w h Y => PySem.W.kIn_of Y) ?L ?F
  case L => intro w; kernel_rfl
  case F =>
    intro w mg fa h KX G hmg
    refine HM.fin_of hmg ?_
    constructor
    case d_is_key =>
      refine' VL.df_mk KX G ?a ?l ?c ?k ?b
      (case a => k_is); (case l => k_is); (case c => k_is); (case k => k_is)
      (case b => exact fun _ _ _ _ _ _ us hl => match us, hl with | [_], _ => rfl)
    case d_check_key =>
      refine' VL.df_mk KX G ?a ?l ?c ?k ?b
      (case a => k_is); (case l => k_is); (case c => k_is); (case k => k_is)
      (case b => exact fun _ _ _ _ _ _ us hl => match us, hl with | [_], _ => rfl)
    case d_check_keys =>
      refine' VL.df_mk KX G ?a ?l ?c ?k ?b
      (case a => k_is); (case l => k_is); (case c => k_is); (case k => k_is)
      (case b => exact fun _ _ _ _ _ _ us hl => match us, hl with | [_], _ => rfl)
    case d_order_of =>
      refine' VL.df_mk KX G ?a ?l ?c ?k ?b
      (case a => k_is); (case l => k_is); (case c => k_is); (case k => k_is)
      (case b => exact fun _ _ _ _ _ _ us hl => match us, hl with | [_], _ => rfl)
    case d_is_tree =>
      refine' VL.df_mk KX G ?a ?l ?c ?k ?b
      (case a => k_is); (case l => k_is); (case c => k_is); (case k => k_is)
      (case b => exact fun _ _ _ _ _ _ us hl => match us, hl with | [_, _], _ => rfl)
    case d_is_pile =>
      refine' VL.df_mk KX G ?a ?l ?c ?k ?b
      (case a => k_is); (case l => k_is); (case c => k_is); (case k => k_is)
      (case b => exact fun _ _ _ _ _ _ us hl => match us, hl with | [_], _ => rfl)
    case d_check_pile =>
      refine' VL.df_mk KX G ?a ?l ?c ?k ?b
      (case a => k_is); (case l => k_is); (case c => k_is); (case k => k_is)
      (case b => exact fun _ _ _ _ _ _ us hl => match us, hl with | [_], _ => rfl)
    case d_count_of =>
      refine' VL.df_mk KX G ?a ?l ?c ?k ?b
      (case a => k_is); (case l => k_is); (case c => k_is); (case k => k_is)
      (case b => exact fun _ _ _ _ _ _ us hl => match us, hl with | [_], _ => rfl)
    case d_copied =>
      refine' VL.df_mk KX G ?a ?l ?c ?k ?b
      (case a => k_is); (case l => k_is); (case c => k_is); (case k => k_is)
      (case b => exact fun _ _ _ _ _ _ us hl => match us, hl with | [_], _ => rfl)
    case d_linked =>
      refine' VL.df_mk KX G ?a ?l ?c ?k ?b
      (case a => k_is); (case l => k_is); (case c => k_is); (case k => k_is)
      (case b => exact fun _ _ _ _ _ _ us hl => match us, hl with | [_, _], _ => rfl)
    case d_joinP =>
      refine' VL.df_mk KX G ?a ?l ?c ?k ?b
      (case a => k_is); (case l => k_is); (case c => k_is); (case k => k_is)
      (case b => exact fun _ _ _ _ _ _ us hl => match us, hl with | [_, _], _ => rfl)
    case d_pile_put =>
      refine' VL.df_mk KX G ?a ?l ?c ?k ?b
      (case a => k_is); (case l => k_is); (case c => k_is); (case k => k_is)
      (case b => exact fun _ _ _ _ _ _ us hl => match us, hl with | [_, _], _ => rfl)
    case d_pile_of =>
      refine' VL.df_mk KX G ?a ?l ?c ?k ?b
      (case a => k_is); (case l => k_is); (case c => k_is); (case k => k_is)
      (case b => exact fun _ _ _ _ _ _ us hl => match us, hl with | [_], _ => rfl)
    case d_l_cell_at =>
      refine' VL.df_mk KX G ?a ?l ?c ?k ?b
      (case a => k_is); (case l => k_is); (case c => k_is); (case k => k_is)
      (case b => exact fun _ _ _ _ _ _ us hl => match us, hl with | [_, _], _ => rfl)
    case d_l_draw =>
      refine' VL.df_mk KX G ?a ?l ?c ?k ?b
      (case a => k_is); (case l => k_is); (case c => k_is); (case k => k_is)
      (case b => exact fun _ _ _ _ _ _ us hl => match us, hl with | [_, _, _], _ => rfl)
    case d_l_number_k01 =>
      refine' VL.df_mk KX G ?a ?l ?c ?k ?b
      (case a => k_is); (case l => k_is); (case c => k_is); (case k => k_is)
      (case b => exact fun _ _ _ _ _ _ us hl => match us, hl with | [_, _, _], _ => rfl)
    case d_l_row =>
      refine' VL.df_mk KX G ?a ?l ?c ?k ?b
      (case a => k_is); (case l => k_is); (case c => k_is); (case k => k_is)
      (case b => exact fun _ _ _ _ _ _ us hl => match us, hl with | [_, _, _, _], _ => rfl)
    case d_l_whole =>
      refine' VL.df_mk KX G ?a ?l ?c ?k ?b
      (case a => k_is); (case l => k_is); (case c => k_is); (case k => k_is)
      (case b => exact fun _ _ _ _ _ _ us hl => match us, hl with | [_], _ => rfl)
    case d_l_ones =>
      refine' VL.df_mk KX G ?a ?l ?c ?k ?b
      (case a => k_is); (case l => k_is); (case c => k_is); (case k => k_is)
      (case b => exact fun _ _ _ _ _ _ us hl => match us, hl with | [_], _ => rfl)
    case d_l_is_order =>
      refine' VL.df_mk KX G ?a ?l ?c ?k ?b
      (case a => k_is); (case l => k_is); (case c => k_is); (case k => k_is)
      (case b => exact fun _ _ _ _ _ _ us hl => match us, hl with | [_, _, _], _ => rfl)
    case d_l_all_in =>
      refine' VL.df_mk KX G ?a ?l ?c ?k ?b
      (case a => k_is); (case l => k_is); (case c => k_is); (case k => k_is)
      (case b => exact fun _ _ _ _ _ _ us hl => match us, hl with | [_], _ => rfl)
    case d_l_is_pile =>
      refine' VL.df_mk KX G ?a ?l ?c ?k ?b
      (case a => k_is); (case l => k_is); (case c => k_is); (case k => k_is)
      (case b => exact fun _ _ _ _ _ _ us hl => match us, hl with | [_, _], _ => rfl)
    case d_l_same_tree =>
      refine' VL.df_mk KX G ?a ?l ?c ?k ?b
      (case a => k_is); (case l => k_is); (case c => k_is); (case k => k_is)
      (case b => exact fun _ _ _ _ _ _ us hl => match us, hl with | [_], _ => rfl)
    case d_l_same_k16 =>
      refine' VL.df_mk KX G ?a ?l ?c ?k ?b
      (case a => k_is); (case l => k_is); (case c => k_is); (case k => k_is)
      (case b => exact fun _ _ _ _ _ _ us hl => match us, hl with | [_], _ => rfl)
    case d_l_spoil =>
      refine' VL.df_mk KX G ?a ?l ?c ?k ?b
      (case a => k_is); (case l => k_is); (case c => k_is); (case k => k_is)
      (case b => exact fun _ _ _ _ _ _ us hl => match us, hl with | [_], _ => rfl)
    case d_l_right_k16 =>
      refine' VL.df_mk KX G ?a ?l ?c ?k ?b
      (case a => k_is); (case l => k_is); (case c => k_is); (case k => k_is)
      (case b => exact fun _ _ _ _ _ _ us hl => match us, hl with | [_], _ => rfl)
    case d_law_k16 =>
      refine' VL.df_mk KX G ?a ?l ?c ?k ?b
      (case a => k_is); (case l => k_is); (case c => k_is); (case k => k_is)
      (case b => exact fun _ _ _ _ _ _ us hl => match us, hl with | [_], _ => rfl)
    case hme => rfl
    case b_isinstance =>
      exact VL.no_mk KX G (by k_is)
    case b_int =>
      exact VL.no_mk KX G (by k_is)
    case b_bool =>
      exact VL.no_mk KX G (by k_is)
    case e_BadKey =>
      refine' VL.er_mk KX G ?a ?e ?k ?s ?t
      (case a => k_is); (case e => k_exc); (case k => k_is); (case s => k_is); (case t => k_is)
    case b_list =>
      exact VL.no_mk KX G (by k_is)
    case b_len =>
      exact VL.no_mk KX G (by k_is)
    case k_MOST =>
      refine' VL.k_mk KX G ?a
      (case a => k_is)
    case b_all =>
      exact VL.no_mk KX G (by k_is)
    case b_tuple =>
      exact VL.no_mk KX G (by k_is)
    case b_enumerate =>
      exact VL.no_mk KX G (by k_is)
    case e_BadPile =>
      refine' VL.er_mk KX G ?a ?e ?k ?s ?t
      (case a => k_is); (case e => k_exc); (case k => k_is); (case s => k_is); (case t => k_is)
    case b_sum =>
      exact VL.no_mk KX G (by k_is)
    case b_max =>
      exact VL.no_mk KX G (by k_is)
    case b_range =>
      exact VL.no_mk KX G (by k_is)
    case e_TooMany =>
      refine' VL.er_mk KX G ?a ?e ?k ?s ?t
      (case a => k_is); (case e => k_exc); (case k => k_is); (case s => k_is); (case t => k_is)
    case b_zip =>
      exact VL.no_mk KX G (by k_is)
    case b_any =>
      exact VL.no_mk KX G (by k_is)
    case b_sorted =>
      exact VL.no_mk KX G (by k_is)
    case b_min =>
      exact VL.no_mk KX G (by k_is)
