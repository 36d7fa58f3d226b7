import PyProof.Rows.All
import Wide.All
import OpenK.AllK
import Wide.FinOn
import HandS.ForMost
import HandS.Codes
import HandS.Defaults
import HandS.Ends
import HandS.HeadEnd
import HandS.Lambda
import HandS.EndTab
import HandS.HeadHook4
import HandS.TupAny
import HandS.Deep
import HandS.IsInst
import HandS.Wide
import HandS.TupMul
import HandS.SortInts
import HandS.SetFor
import HandS.Style
import HandS.HeadHook2
import HandS.Zip
import KE.GoesMore
import KE.GoesZip
import KE.GoesEnum
import HandS.Comp
import KE.SortData
import HandS.SortKw
import KE.DataMinMax
import PyProof.ListIndex
import PyProof.ListIndexNeg
import HandS.Dict
import HandS.Iter
import HandS.Small
import HandS.More
import PyProof.TupleOfSeq
import HandS.Conv
import KE.KDictDisplayH
import HandS.TupSets
import PyProof.TupleIter
import PyProof.WalksMore
import PyProof.ReprRoads
import PyProof.CallFns
import PyProof.Claim2Refuses
import KE.SortKeyHeap
import HandS.DictComp
import HandS.Head0
import HandS.Head1
import HandS.Head2
import HandS.HeadHook1
import HandS.Words
import HandS.WordsExc
import PySem.Challenge.RW_wheelsparted_k10_split_papers_judged
set_option Elab.async false
set_option linter.all false
set_option maxRecDepth 100000
set_option maxHeartbeats 4000000
/-! G0: promises of defs that are called while no repr is under way (the library's promises know nothing of it; repr of a tuple asks it). -/
namespace G
open PySem PySem.Spec L2 PyProof.Rows
structure RoomG (k : Nat) (A : Around) : Prop extends Room k A where
  gu : A.guards = some []
theorem RoomG.mono {j k : Nat} {A : Around} (r : RoomG k A) (h : j ≤ k) : RoomG j A := ⟨r.toRoom.mono h, r.gu⟩
theorem RoomG.deeper {k : Nat} {A : Around} (r : RoomG (k + 1) A) (env : Env) : RoomG k (A.deeper env) := ⟨r.toRoom.deeper env, r.gu⟩
/-- the tables of code objects that are told -/
def TbIn (cs : List (Addr × Addr)) (H : Hp) : Prop := ∀ p ∈ cs, ∃ ps, H p.2 = some (.tbl ps)
structure FnOkG (cs : List (Addr × Addr)) (P : Program) (w : World) (K : PySem.W.Frag) (mg : Str → Option Value) (base : Heap) (CX : CXT) (k : Nat) (f : Addr) (fd : FuncData) (ps : List Str) (sp : Sp) : Prop where
  len : ∀ vs H Q E, sp vs H Q E → vs.length = ps.length
  run : ∀ (A : Around) (outer : List Env) (s : Shared) (H : Hp) (args : Args) (us : List Value) (vs : List V) (Q : VK) (E : XK), RoomG k A → Env0 P w K mg base A outer s H → TbIn cs H → BindsTo s fd args (ps.zip us) → Vals vs us → sp vs H Q E →
    codeAny (model P w) A (.call (.ref f) args) (CR CX outer P w H s Q E) s
section
variable {cs : List (Addr × Addr)} {P : Program} {w : World} {K : PySem.W.Frag} {mg : Str → Option Value} {base : Heap} {x : Str} {f : Addr} {fd : FuncData} {N ps : List Str} {k : Nat} {sp : Sp}
theorem funD_okG {qual : Str} {params : Arguments} {body : List Stmt} {scope : Scope} {dvs : List V} {kws : List (Str × V)} (F : FunD K x qual params body scope dvs kws f fd) (S : FnScope N ps scope) (len : ∀ vs H Q E, sp vs H Q E → vs.length = ps.length)
    (hbody : ∀ (cdv : Value) (A : Around) (outer : List Env) (s : Shared) (H : Hp) (vs : List V) (Q : VK) (E : XK), RoomG k (A.deeper (envOfC qual scope s.heap.objs.size f cdv)) → TbIn cs H → (∃ (c : Addr) (p : Obj) (fd' : FuncData), cdv = .ref c ∧ K.lookup f = some p ∧ p.data = .func fd' ∧ fd'.code = .ref c) → sp vs H Q E →
      ∃ t, PSs (cxOf CX0 P w K mg base N qual scope f cdv A outer s H E) body t ∧ t { nx := fun _ H' => Q .non H', rt := Q } (start N vs) H) : FnOkG cs P w K mg base CX0 (k + 1) f fd ps sp := by
  obtain ⟨oc, od, dV, kV, doc, pm, an, cdv, ct, osl, rfl, lk, hcd, _, _⟩ := F.ex
  obtain ⟨cc, rfl⟩ := He.codeIn_ref hcd
  refine ⟨len, fun A outer s H args us vs Q E room e0 tbi bd rel hsp => ?_⟩
  have keepB : ∀ b o, base.get? b = some o → s.heap.get? b = some o := fun b o e => (e0.bs b o e).1
  have KX : K.In s.heap := e0.mod.kin.keeps keepB
  refine codeAny_call_function room.depth (KX _ _ lk) rfl S.co S.gen rfl (PySem.W.codeRec_of KX hcd) (bd _ _ _ _ ?_)
  refine wpAny_newFunctionEnv_cells S.kind (fun ⟨n, v⟩ hy => ?_) fun env he s1 y => ?_
  · rcases S.par n (List.of_mem_zip hy).1 with q | q
    · exact .inl q
    · exact .inr ⟨q, PySem.W.cellsFrom_some _ _ _ (.inl q)⟩
  subst he
  refine ⟨(e0.mod.nolimit.keeps keepB).keeps y.toInCall.keep, codeAny_func ?_⟩
  obtain ⟨t, ht, hq⟩ := hbody (.ref cc) A outer s H vs Q E (room.deeper _) tbi ⟨cc, _, _, rfl, lk, rfl, rfl⟩ hsp
  refine wpAny_mono (ht.run [] s1 (start N vs) H _ (inv_start S room.hd e0 (len _ _ _ _ hsp) rel y) hq) (fun fl s' hs => ?_) fun e s' hs => hs
  cases fl with
  | ret u => obtain ⟨v, σ', H', J, rv, q⟩ := hs; exact ⟨v, H', J.os, J.bare, J.base, J.hok, rv, q⟩
  | next => obtain ⟨σ', H', J, q⟩ := hs; exact ⟨V.non, H', J.os, J.bare, J.base, J.hok, rfl, q⟩
  | brk => obtain ⟨_, _, _, q⟩ := hs; exact False.elim q
  | cont => obtain ⟨_, _, _, q⟩ := hs; exact False.elim q
/-- a def that may be called by its name -/
structure CalG (cs : List (Addr × Addr)) (P : Program) (w : World) (K : PySem.W.Frag) (mg : Str → Option Value) (base : Heap) (k : Nat) (x : Str) (sp : Sp) (dvs : List V) : Prop where
  ex : ∃ (f : Addr) (fd : FuncData) (ps : List Str) (ds : List Value), FnOkG cs P w K mg base CX0 k f fd ps sp ∧ mg x = some (.ref f) ∧ PySem.W.keepIn K (.ref f) = true ∧ Binds K fd ps ds ∧ Vals dvs ds
end
section
variable {cs : List (Addr × Addr)} {X : Cx} {j k : Nat} {x : Str} {sp : Sp} {dvs : List V} {p pos : Pos} {e : Expr} {es : List Expr} {t : TA}
theorem TbIn.at {pins : List (Addr × Obj)} {σ : L2.St} {H : Hp} {s : Shared} (ht : TbIn cs X.H_0) (I : Inv X pins σ H s) : TbIn cs H := fun p hp => by
  obtain ⟨ps, h⟩ := ht p hp
  obtain ⟨more, h2⟩ := I.base.tbls _ _ h
  exact ⟨_, h2⟩
theorem pe_cG (c : CalG cs X.prog X.w X.K X.mg X.base k x sp dvs) (hr : RoomG j X.A) (ht : TbIn cs X.H_0) (hk : k ≤ j) (hg : Gl X x) (ha : PA X (e :: es) t)
    (hdb : (x == ("__debug__" : Str)) = false := by decide) (he : starEach (e :: es) X.env = (false, eval e X.env) :: starEach es X.env := by rfl) (hpl : (backTo pos (starEach es X.env)).any (·.1) = false := by rfl) :
    PE X (.Call (.Name x p) (e :: es) [] pos) (tCall sp dvs E0 t) := by
  obtain ⟨f, fd, ps, ds, F, hm, kp, b, d⟩ := c.ex
  refine ⟨fun pins s σ H Q I h => ?_⟩
  refine wpAny_Call_Name_kw (ld_glob I hg hm ?_ hdb)
  refine PySem.W.callWith_K (h₀ := X.base) I.ok.mod.kin kp (thn (ha.run pos pins s σ H _ I h) fun us s1 ⟨vs, H1, I1, r, q⟩ => ⟨I1.kIn, ?_⟩) he hpl
  have r2 : Vals (vs ++ dvs) (us ++ ds) := r.append d
  refine wpAny_call (codeAny_mono (F.run X.A X.stack s1 H1 ⟨us, []⟩ (us ++ ds) (vs ++ dvs) Q E0 (hr.mono hk) I1.env0 (ht.at I1) (b s1 us I1.kIn (by rw [← r2.length]; exact F.len _ _ _ _ q)) r2 q) fun r s' hq => ?_)
  cases r with
  | error e => exact pass0 pins σ H1 s1 e s' I1 hq
  | ok fl =>
    cases fl with
    | ret u => exact I1.after hq
    | next => exact False.elim hq
    | brk => exact False.elim hq
    | cont => exact False.elim hq
end
/-! ### the law's own call -/
theorem law_callG {P : Program} {w : World} {K : PySem.W.Frag} {mg mb : Str → Option Value} {k : Nat} {fa a : Addr} {cs : List (Addr × Addr)} {fd : FuncData} {x : Str} {sp : Sp} {s₁ : Shared} {vs : List Value} {ns : List Int}
    (KX : K.In s₁.heap) (hns : s₁.heap.Ns mainGlobals mg) (hb : s₁.heap.Ns builtinsNs mb) (hbb : ∀ x : Str, x ≠ "__name__" → mb x = bootBuiltins x) (hlim : s₁.heap.NoLimit) (hg : s₁.gens = #[])
    (hT : ∀ p ∈ cs, s₁.heap.get? p.2 = some { cls := .none, data := .fields #[] }) (nT : ∀ p ∈ cs, K.lookup p.2 = none) (C : ∀ p ∈ cs, PySem.W.CodeHd s₁.heap p.1 p.2)
    (hbm : ∃ (bm : Addr) (ob : Obj), mg "__builtins__" = some (.ref bm) ∧ bm ≠ builtinsNs ∧ s₁.heap.get? bm = some ob ∧ ob.cls = .type "module" ∧ ob.dict = some builtinsNs ∧ ob.data = .plain)
    (ha : s₁.heap.get? a = some { cls := .type "list", data := .seq vs.toArray }) (hi : IntsAre vs ns) (hl : ns.length ≤ sizeLine) (hr : Room k callerA)
    (F : ∀ base : Heap, K.In base → base.Ns mainGlobals mg → (∀ p ∈ cs, LamX.TabB base mg p.1 p.2) → FnOkG cs P w K mg base CX0 k fa fd [x] sp) (hbind : ∀ (s : Shared) (u : Value), BindsTo s fd ⟨[u], []⟩ [(x, u)])
    (hsp : ∀ H : Hp, (∀ P ps, H P = some (.tbl ps) → ps = #[]) → SqL K H a (ns.map V.int) → sp [.ref a] H (fun v _ => v = .bl true) fun _ _ _ => False) :
    codeAny (model P w) callerA (.call (.ref fa) ⟨[.ref a], []⟩) (fun r s' => r = .ok (.ret (.bool true)) ∧ OldK s₁.heap s'.heap ∧ s'.os = s₁.os ∧ AllBare s'.gens) s₁ := by
  have rv := vals_ints hi
  have lenV := hi.length
  have isT : ∀ b : Addr, b ∈ cs.map (·.2) → s₁.heap.get? b = some { cls := .none, data := .fields #[] } := fun b hb => by
    obtain ⟨p, hp, e⟩ := List.mem_map.mp hb
    rw [← e]
    exact hT p hp
  have aT : a ∉ cs.map (·.2) := fun z => by
    have q := isT a z
    rw [ha] at q
    have z' : Data.seq vs.toArray _ = Data.fields #[] := congrArg Obj.data (Option.some.inj q)
    cases z'
  have memT : ∀ p ∈ cs, p.2 ∈ cs.map (·.2) := fun p hp => List.mem_map.mpr ⟨p, hp, rfl⟩
  have core : ∀ H : Hp, (∀ p ∈ cs, H p.2 = some (.tbl #[])) → (∀ b, H b = none ∨ (b ∈ cs.map (·.2) ∧ H b = some (.tbl #[])) ∨ ∃ o xs, H b = some (.frz o (.lst xs))) → SqL K H a (ns.map V.int) → HOk P w H s₁.heap → (∀ b, H b ≠ none → b = a ∨ b ∈ cs.map (·.2)) → (H a ≠ none → K.lookup a = none) →
      codeAny (model P w) callerA (.call (.ref fa) ⟨[.ref a], []⟩) (fun r s' => r = .ok (.ret (.bool true)) ∧ OldK s₁.heap s'.heap ∧ s'.os = s₁.os ∧ AllBare s'.gens) s₁ := by
    intro H hH hO hS hok hA hK
    have base_of : ∀ {b : Addr} {o : Obj}, s₁.heap.get? b = some o → H b = none → (hidT s₁.heap H).get? b = some o := fun e n => hidT_get e n
    have noD : ∀ {b : Addr} {o : Obj}, s₁.heap.get? b = some o → (∀ vs n, o.data ≠ .seq vs n) → o.data ≠ .fields #[] → H b = none := fun {b o} e h1 h2 => by
      cases q : H b with
      | none => rfl
      | some u =>
        rcases hA b (by rw [q]; simp) with e' | e'
        · rw [e', ha] at e
          cases e
          exact (h1 _ _ rfl).elim
        · rw [isT b e'] at e
          cases e
          exact (h2 rfl).elim
    have noA : ∀ {b : Addr} {o : Obj} {es : Array DictEntry} {ep : Nat}, s₁.heap.get? b = some o → o.data = .dict es ep → H b = none := fun {b o es ep} e d => by
      refine noD e (fun vs n z => ?_) fun z => ?_
      · rw [d] at z
        cases z
      · rw [d] at z
        cases z
    have nsK : ∀ {b : Addr} {m : Str → Option Value}, s₁.heap.Ns b m → (hidT s₁.heap H).Ns b m := fun {b m} ⟨o, es, ep, e, d, r⟩ => ⟨o, es, ep, base_of e (noA e d), d, r⟩
    have hKb : K.In (hidT s₁.heap H) := fun b o e => base_of (KX b o e) (by
      cases q : H b with
      | none => rfl
      | some u =>
        rcases hA b (by rw [q]; simp) with e' | e'
        · rw [e'] at e q
          rw [hK (by rw [q]; simp)] at e
          cases e
        · obtain ⟨p, hp, ep⟩ := List.mem_map.mp e'
          rw [← ep, nT p hp] at e
          cases e)
    have hM : L2.Mod K mg (hidT s₁.heap H) := ⟨hKb, nsK hns, ⟨mb, nsK hb, hbb⟩, let ⟨mc, h1, h2⟩ := hlim; ⟨mc, nsK h1, h2⟩⟩
    have TB : ∀ p ∈ cs, LamX.TabB (hidT s₁.heap H) mg p.1 p.2 := fun p hp => by
      have hTp := hT p hp
      refine ⟨?_, ?_, fun z => ?_⟩
      · obtain ⟨o, us, file, tf, flags, tg, inF, text, tt, e1, r1, r2, r3, r4, r5, r6, r7, r8, hne⟩ := C p hp
        refine ⟨o, us, file, tf, flags, tg, inF, text, tt, base_of e1 (noD e1 (fun vs n z => ?_) fun z => ?_), r1, r2, r3, r4, r5, r6, r7, r8, hne⟩
        · rw [r2] at z
          cases z
        · rw [r2] at z
          cases z
          simp at r3
      · obtain ⟨bm, ob, b1, b2, b3, b4, b5, b6⟩ := hbm
        have nG : bm ≠ mainGlobals := fun q => by
          obtain ⟨o, es, ep, e, hd, _⟩ := hns
          rw [q, e] at b3
          cases b3
          rw [hd] at b6
          cases b6
        have nP : bm ≠ p.2 := fun q => by
          rw [q, hTp] at b3
          cases b3
          cases b6
        refine ⟨bm, ob, b1, b2, nG, nP, base_of b3 (noD b3 (fun vs n z => ?_) fun z => ?_), b4, b5, b6⟩
        · rw [b6] at z
          cases z
        · rw [b6] at z
          cases z
      · obtain ⟨o, es, ep, e, hd, _⟩ := hns
        rw [z, hTp] at e
        cases e
        cases hd
    have e0 : Env0 P w K mg (hidT s₁.heap H) callerA [] s₁ H := ⟨rfl, hM, fun b o e => of_hidT e, Nat.le_of_eq (hidT_size _ _), trivial, fun b hb => absurd (show b ∈ ([] : List Addr) from hb) (by simp), hok, .of_eq hg⟩
    refine codeAny_mono ((F _ hKb (nsK hns) TB).run callerA [] s₁ H ⟨[.ref a], []⟩ [.ref a] [.ref a] _ _ ⟨hr, rfl⟩ e0 (fun p hp => ⟨_, hH p hp⟩) (hbind s₁ (.ref a)) (.cons rfl .nil) (hsp H (fun P ps hP => by
      rcases hO P with z | ⟨_, z⟩ | ⟨ob, xs, z⟩
      · rw [hP] at z; cases z
      · rw [hP] at z; cases z; rfl
      · rw [hP] at z; cases z) hS)) fun r s' h => ?_
    cases r with
    | error e => exact h.elim
    | ok fl =>
      cases fl with
      | next => exact False.elim h
      | brk => exact False.elim h
      | cont => exact False.elim h
      | ret u =>
        obtain ⟨v, H', os, bare, un, hok', r', q⟩ := h
        have q' : v = .bl true := q
        subst q'
        obtain rfl : u = Value.bool true := r'
        have key : ∀ b o, b ∉ cs.map (·.2) → s₁.heap.get? b = some o → s'.heap.get? b = some o := fun b o nb e => by
          cases q : H b with
          | none => exact un.keep b o e q (by intro z; exact absurd (show b ∈ ([] : List Addr) from z) (by simp)) (by simp)
          | some u =>
            rcases hO b with z | ⟨z, _⟩ | ⟨ob, xs, z⟩
            · rw [q] at z; cases z
            · exact absurd z nb
            · have z2 := un.frzs b ob _ z
              obtain ⟨e1, _⟩ := hok b _ z
              obtain ⟨e2, _⟩ := hok' b _ z2
              rw [e] at e1; cases e1
              exact e2
        have grown : ∀ p ∈ cs, ∃ more : Array Value, s'.heap.get? p.2 = some { cls := .none, data := .fields more } := fun p hp => by
          obtain ⟨more, z⟩ := un.tbls p.2 #[] (hH p hp)
          exact ⟨_, hok' p.2 _ z⟩
        refine ⟨rfl, ⟨fun b o e => ?_, fun b o e => ?_⟩, os, bare⟩
        · by_cases hb : b ∈ cs.map (·.2)
          · obtain ⟨p, hp, ep⟩ := List.mem_map.mp hb
            obtain ⟨more, hm⟩ := grown p hp
            rw [← ep] at e ⊢
            rw [hT p hp] at e
            cases e
            exact .inr (.inl ⟨((C p hp).tab (hT p hp)).isCodeTable, rfl, #[], more, rfl, by rw [Array.empty_append]; exact hm⟩)
          · exact .inl (key b o hb e)
        · by_cases hb : b ∈ cs.map (·.2)
          · obtain ⟨p, hp, ep⟩ := List.mem_map.mp hb
            obtain ⟨more, hm⟩ := grown p hp
            rw [← ep]
            exact ⟨_, hm⟩
          · exact ⟨o, key b o hb e⟩
  cases hk : K.lookup a with
  | some o =>
    have e := KX a o hk
    rw [ha] at e
    cases e
    refine core (fun b => if b ∈ cs.map (·.2) then some (.tbl #[]) else none) (fun p hp => if_pos (memT p hp)) (fun b => ?_) (.inr ⟨_, vs.toArray, _, hk, rfl, rfl, rfl, by rw [List.size_toArray, lenV]; exact hl, by simpa using rv⟩) (fun b u z => ?_) (fun b z => ?_) fun z => absurd (show (if a ∈ cs.map (·.2) then some (HO.tbl #[]) else none) = none from if_neg aT) z
    · by_cases hb : b ∈ cs.map (·.2)
      · exact .inr (.inl ⟨hb, if_pos hb⟩)
      · exact .inl (if_neg hb)
    · by_cases hb : b ∈ cs.map (·.2)
      · have z' := (if_pos hb).symm.trans z
        cases z'
        exact isT b hb
      · have z' := (if_neg hb).symm.trans z
        cases z'
    · by_cases hb : b ∈ cs.map (·.2)
      · exact .inr hb
      · exact absurd (if_neg hb) z
  | none =>
    refine core (fun b => if b = a then some (.frz { cls := .type "list", data := .seq vs.toArray } (.lst (ns.map V.int))) else if b ∈ cs.map (·.2) then some (.tbl #[]) else none) (fun p hp => (if_neg (show ¬ p.2 = a from fun z => aT (by rw [← z]; exact memT p hp))).trans (if_pos (memT p hp))) (fun b => ?_)
      (.inl (.inr ⟨{ cls := .type "list", data := .seq vs.toArray }, if_pos rfl⟩)) (fun b u z => ?_) (fun b z => ?_) fun _ => hk
    · by_cases hb : b = a
      · exact .inr (.inr ⟨_, _, if_pos hb⟩)
      · by_cases hb2 : b ∈ cs.map (·.2)
        · exact .inr (.inl ⟨hb2, (if_neg hb).trans (if_pos hb2)⟩)
        · exact .inl ((if_neg hb).trans (if_neg hb2))
    · by_cases hb : b = a
      · have z' := (if_pos hb).symm.trans z
        cases z'
        rw [hb]
        exact ⟨ha, by rw [List.length_map]; exact hl, vs, _, rv, ha⟩
      · have z1 := (if_neg hb).symm.trans z
        by_cases hb2 : b ∈ cs.map (·.2)
        · have z' := (if_pos hb2).symm.trans z1
          cases z'
          exact isT b hb2
        · have z' := (if_neg hb2).symm.trans z1
          cases z'
    · by_cases hb : b = a
      · exact .inl hb
      · by_cases hb2 : b ∈ cs.map (·.2)
        · exact .inr hb2
        · exact absurd ((if_neg hb).trans (if_neg hb2)) z
theorem walk_ofG {l : PySem.W.OpenLaw} {n k : Nat} {q : Program} {loose : List Str} {XP : (Str → Option Value) → Heap → Prop} {YP : World → Heap → Prop} {d : DefRec} {x : Str}
    (hn : l.most = some n) (hn2 : n ≤ sizeLine) (hdf : d.params.defaults = []) (hr : Room k callerA)
    (F : ∀ (w : World) (mg : Str → Option Value) (fa : Addr) (h : Heap), YP w h → h.Ns mainGlobals mg → mg d.name = some (.ref fa) →
      ∃ (K : PySem.W.Frag) (cs : List (Addr × Addr)) (fd : FuncData) (sp : Sp), K.In h ∧ (∀ p ∈ cs, h.get? p.2 = some { cls := .none, data := .fields #[] }) ∧ (∀ p ∈ cs, K.lookup p.2 = none) ∧ (∀ p ∈ cs, PySem.W.CodeHd h p.1 p.2) ∧ (∀ (s : Shared) (u : Value), BindsTo s fd ⟨[u], []⟩ [(x, u)]) ∧
        (∀ (H : Hp) (a : Addr) (ns : List Int), ns.length ≤ n → (∀ P ps, H P = some (.tbl ps) → ps = #[]) → SqL K H a (ns.map V.int) → sp [.ref a] H (fun v _ => v = .bl true) fun _ _ _ => False) ∧
        ∀ base : Heap, K.In base → base.Ns mainGlobals mg → (∀ p ∈ cs, LamX.TabB base mg p.1 p.2) → FnOkG cs l.prog w K mg base CX0 k fa fd [x] sp) :
    PySem.W.WalkO q loose XP YP l.row.toRowW d [] (fun f vs => PySem.call f vs) :=
  Att.attach_call hn hdf fun w s₀ s₁ mg mb fa o pm cd doc a vs ns G Y ho hd hcd hmg hobj hints hlen hg => by
    obtain ⟨K, cs, fd, sp, KX, hT, nT, C, hb, hsp, hF⟩ := F w mg fa _ Y G.T.g hmg
    exact law_callG KX G.T.g G.T.b G.T.builtins G.T.nolimit hg hT nT C G.T.bmain hobj hints (Nat.le_trans hlen hn2) hr hF hb fun H hH hS => hsp H a ns hlen hH hS
end G
/-! G1: data over the abstract heap: what a value stands for (R), contexts of slots (Sat), steps (Stp, XS), the judgements of expressions (GE, GV, GL, GT, GA). -/
namespace G
open PySem L2

abbrev D := PyData

/-! ### what a value stands for, in the part of the heap that stays -/
mutual
inductive R (F : Hp) : V → D → Prop
  | non : R F .non .none
  | bl (b : Bool) : R F (.bl b) (.bool b)
  | int (i : Int) : R F (.int i) (.int i)
  | str (x : Str) : R F (.str x) (.str x)
  | lst {a : Addr} {xs : List V} {ds : List D} : Rd F a (.lst xs) → RA F xs ds → R F (.ref a) (.list ds)
  | tup {a : Addr} {xs : List V} {ds : List D} : F a = some (.tup xs) → RA F xs ds → R F (.ref a) (.tuple ds)
inductive RA (F : Hp) : List V → List D → Prop
  | nil : RA F [] []
  | cons {v : V} {vs : List V} {d : D} {ds : List D} : R F v d → RA F vs ds → RA F (v :: vs) (d :: ds)
end
def Ext (H H' : Hp) : Prop := ∀ a o, H a = some o → H' a = some o
theorem Ext.refl (H : Hp) : Ext H H := fun _ _ h => h
theorem Ext.trans {H H1 H2 : Hp} (a : Ext H H1) (b : Ext H1 H2) : Ext H H2 := fun x o h => b x o (a x o h)
theorem Ext.free {H H' : Hp} (e : Ext H H') {p : Addr} (h : H' p = none) : H p = none := by
  cases q : H p with
  | none => rfl
  | some o => rw [e p o q] at h; cases h
theorem Ext.new {H : Hp} {p : Addr} {o : HO} (h : H p = none) : Ext H (upd H p o) := fun a u e => by
  rw [upd_ne (ne_of_none e h)]
  exact e
theorem Ext.rd {H H' : Hp} (e : Ext H H') {a : Addr} {u : HO} (r : Rd H a u) : Rd H' a u := r.imp (e _ _) fun ⟨o, h⟩ => ⟨o, e _ _ h⟩
mutual
theorem R.mono {F F' : Hp} (e : Ext F F') : ∀ {d : D} {v : V}, R F v d → R F' v d
  | .none, _, h => by cases h; exact .non
  | .bool _, _, h => by cases h; exact .bl _
  | .int _, _, h => by cases h; exact .int _
  | .str _, _, h => by cases h; exact .str _
  | .list ds, _, h => by
    cases h with
    | lst h1 h2 => exact .lst (e.rd h1) (RA.mono e h2)
  | .tuple ds, _, h => by
    cases h with
    | tup h1 h2 => exact .tup (e _ _ h1) (RA.mono e h2)
  | .dict _, _, h => by cases h
theorem RA.mono {F F' : Hp} (e : Ext F F') : ∀ {ds : List D} {vs : List V}, RA F vs ds → RA F' vs ds
  | [], _, h => by cases h; exact .nil
  | d :: ds, _, h => by
    cases h with
    | cons h1 h2 => exact .cons (R.mono e h1) (RA.mono e h2)
end
mutual
theorem R.dp {K : PySem.W.Frag} {F H : Hp} (e : Ext F H) : ∀ {d : D} {v : V}, R F v d → Dp K H v d
  | .none, _, h => by cases h; exact .non
  | .bool _, _, h => by cases h; exact .bl _
  | .int _, _, h => by cases h; exact .int _
  | .str _, _, h => by cases h; exact .str _
  | .list ds, _, h => by
    cases h with
    | lst h1 h2 => exact .lst (.inl (e.rd h1)) (RA.dp e h2)
  | .tuple ds, _, h => by
    cases h with
    | tup h1 h2 => exact .tup (.of (e _ _ h1)) (RA.dp e h2)
  | .dict _, _, h => by cases h
theorem RA.dp {K : PySem.W.Frag} {F H : Hp} (e : Ext F H) : ∀ {ds : List D} {vs : List V}, RA F vs ds → DpAll K H vs ds
  | [], _, h => by cases h; exact .nil
  | d :: ds, _, h => by
    cases h with
    | cons h1 h2 => exact .cons (R.dp e h1) (RA.dp e h2)
end
section
variable {F : Hp}
theorem RA.length : ∀ {vs : List V} {ds : List D}, RA F vs ds → vs.length = ds.length
  | _, _, .nil => rfl
  | _, _, .cons _ t => congrArg Nat.succ (RA.length t)
theorem RA.append : ∀ {vs ws : List V} {ds es : List D}, RA F vs ds → RA F ws es → RA F (vs ++ ws) (ds ++ es)
  | _, _, _, _, .nil, h => h
  | _, _, _, _, .cons a t, h => .cons a (RA.append t h)
theorem RA.snoc {vs : List V} {ds : List D} {v : V} {d : D} (h : RA F vs ds) (r : R F v d) : RA F (vs ++ [v]) (ds ++ [d]) := h.append (.cons r .nil)
theorem RA.get : ∀ {vs : List V} {ds : List D} {i : Nat} {d : D}, RA F vs ds → ds[i]? = some d → ∃ v, vs[i]? = some v ∧ R F v d
  | _, _, 0, _, .cons r _, e => by simp at e; subst e; exact ⟨_, rfl, r⟩
  | _, _, i + 1, _, .cons _ t, e => by
    obtain ⟨v, h1, h2⟩ := RA.get t (by simpa using e)
    exact ⟨v, by simpa using h1, h2⟩
  | _, _, _, _, .nil, e => by simp at e
theorem RA.get' : ∀ {vs : List V} {ds : List D} {i : Nat} {v : V}, RA F vs ds → vs[i]? = some v → ∃ d, ds[i]? = some d ∧ R F v d
  | _, _, 0, _, .cons r _, e => by simp at e; subst e; exact ⟨_, rfl, r⟩
  | _, _, i + 1, _, .cons _ t, e => by
    obtain ⟨v, h1, h2⟩ := RA.get' t (by simpa using e)
    exact ⟨v, by simpa using h1, h2⟩
  | _, _, _, _, .nil, e => by simp at e
theorem RA.take : ∀ {vs : List V} {ds : List D} (n : Nat), RA F vs ds → RA F (vs.take n) (ds.take n)
  | _, _, 0, _ => .nil
  | _, _, _ + 1, .nil => .nil
  | _, _, n + 1, .cons r t => .cons r (RA.take n t)
theorem RA.drop : ∀ {vs : List V} {ds : List D} (n : Nat), RA F vs ds → RA F (vs.drop n) (ds.drop n)
  | _, _, 0, h => h
  | _, _, _ + 1, .nil => .nil
  | _, _, n + 1, .cons _ t => RA.drop n t
theorem RA.set : ∀ {vs : List V} {ds : List D} {v : V} {d : D} (n : Nat), RA F vs ds → R F v d → RA F (vs.set n v) (ds.set n d)
  | _, _, _, _, _, .nil, _ => .nil
  | _, _, _, _, 0, .cons _ t, r => .cons r t
  | _, _, _, _, n + 1, .cons a t, r => .cons a (RA.set n t r)
theorem RA.rev : ∀ {vs : List V} {ds : List D}, RA F vs ds → RA F vs.reverse ds.reverse
  | _, _, .nil => .nil
  | _, _, .cons r t => by rw [List.reverse_cons, List.reverse_cons]; exact (RA.rev t).snoc r
theorem RA.dropLast {vs : List V} {ds : List D} (h : RA F vs ds) : RA F vs.dropLast ds.dropLast := by
  rw [List.dropLast_eq_take, List.dropLast_eq_take, h.length]
  exact h.take _
theorem RA.ints {is : List Int} : ∀ {vs : List V}, RA F vs (is.map PyData.int) → vs = is.map V.int := by
  induction is with
  | nil => intro vs h; cases h; rfl
  | cons i is ih =>
    intro vs h
    cases h with
    | cons r t => cases r; rw [ih t]; rfl
theorem RA.bools {bs : List Bool} : ∀ {vs : List V}, RA F vs (bs.map PyData.bool) → vs = bs.map V.bl := by
  induction bs with
  | nil => intro vs h; cases h; rfl
  | cons i is ih =>
    intro vs h
    cases h with
    | cons r t => cases r; rw [ih t]; rfl
theorem RA.strs {bs : List Str} : ∀ {vs : List V}, RA F vs (bs.map PyData.str) → vs = bs.map V.str := by
  induction bs with
  | nil => intro vs h; cases h; rfl
  | cons i is ih =>
    intro vs h
    cases h with
    | cons r t => cases r; rw [ih t]; rfl
end

/-! ### contexts -/
/-- what is known of an own object of another kind -/
structure OSpec where
  p : Hp → Addr → HO → Prop
  nt : ∀ {F : Hp} {a : Addr} {o : HO}, p F a o → ∀ ps, o ≠ .tbl ps
  mono : ∀ {F F' : Hp} {a : Addr} {o : HO}, Ext F F' → p F a o → p F' a o
/-- what is known of a value that stays -/
structure SSpec where
  p : Hp → V → Prop
  mono : ∀ {F F' : Hp} {v : V}, Ext F F' → p F v → p F' v
/-- a slot: nothing is known; a value that stays; a list of one's own; the list handed in (at p); a dict of one's own with int keys -/
inductive Sl where
  | any | sp (s : SSpec) | sh (d : D) | ol (ds : List D) | op (p : Addr) (ds : List D) | ob (s : OSpec)
def Sl.own : Sl → Bool
  | .any => false
  | .sh _ => false
  | .sp _ => false
  | _ => true
abbrev Ct := List Sl
/-- the entries of a dict -/
inductive RK (F : Hp) : List (Key × V) → List (Int × D) → Prop
  | nil : RK F [] []
  | cons {k : Int} {v : V} {d : D} {es : List (Key × V)} {kvs : List (Int × D)} : R F v d → RK F es kvs → RK F ((Sum.inl k, v) :: es) ((k, d) :: kvs)
theorem RK.mono {F F' : Hp} (e : Ext F F') : ∀ {es kvs}, RK F es kvs → RK F' es kvs
  | _, _, .nil => .nil
  | _, _, .cons r t => .cons (r.mono e) (RK.mono e t)
def SlOk (F H : Hp) (ov : Option (Option V)) : Sl → Prop
  | .any => True
  | .sp s => ∃ v, ov = some (some v) ∧ s.p F v
  | .sh d => ∃ v, ov = some (some v) ∧ R F v d
  | .ol ds => ∃ p vs, ov = some (some (.ref p)) ∧ H p = some (.lst vs) ∧ RA F vs ds ∧ F p = none
  | .op p ds => ∃ vs, ov = some (some (.ref p)) ∧ H p = some (.lst vs) ∧ RA F vs ds ∧ F p = none
  | .ob s => ∃ p u, ov = some (some (.ref p)) ∧ H p = some u ∧ s.p F p u ∧ F p = none
def Own (σ : L2.St) (C : Ct) (a : Addr) : Prop := ∃ (i : Nat) (s : Sl), C[i]? = some s ∧ s.own = true ∧ σ[i]? = some (some (V.ref a))
/-- the name of the one lambda there is -/
def lamQ : Str := "groups_within.<locals>.<lambda>"
/-- the tables of code objects tell codes of that name -/
structure TbOk (F H : Hp) : Prop where
  no : ∀ a ps, F a ≠ some (.tbl ps)
  ok : ∀ P ps, H P = some (.tbl ps) → TriplesOk ps.toList ∧ ∀ (pos : Pos) (cv : Value), codeAmong pos ps.toList = some cv → ∃ c, cv = .ref c ∧ F c = some (LamX.CodeO c lamQ)
theorem TbOk.mono {F F' H : Hp} (t : TbOk F H) (e : Ext F F') (n : ∀ a ps, F' a ≠ some (.tbl ps)) : TbOk F' H := ⟨n, fun P ps h => ⟨(t.ok P ps h).1, fun pos cv hc => let ⟨c, h1, h2⟩ := (t.ok P ps h).2 pos cv hc; ⟨c, h1, e _ _ h2⟩⟩⟩
theorem TbOk.new {F H : Hp} {p : Addr} {o : HO} (t : TbOk F H) (hp : F p = none) (ho : ∀ ps, o ≠ .tbl ps) : TbOk (upd F p o) H := t.mono (Ext.new hp) fun a ps h => by
  by_cases e : a = p
  · subst e; rw [upd_same] at h; exact ho ps (Option.some.inj h)
  · rw [upd_ne e] at h; exact t.no a ps h
theorem TbOk.upd {F H : Hp} {p : Addr} {o : HO} (t : TbOk F H) (ho : ∀ ps, o ≠ .tbl ps) : TbOk F (upd H p o) := ⟨t.no, fun P ps h => by
  by_cases hp : P = p
  · subst hp; rw [upd_same] at h; exact absurd (Option.some.inj h) (ho ps)
  · rw [upd_ne hp] at h; exact t.ok P ps h⟩
structure Ex2 (F H : Hp) : Prop where
  ex : Ext F H
  tb : TbOk F H
structure Sat (F H : Hp) (σ : L2.St) (C : Ct) : Prop where
  ex : Ext F H
  len : C.length = σ.length
  sl : ∀ (i : Nat) (s : Sl), C[i]? = some s → SlOk F H σ[i]? s
  dis : ∀ (i j : Nat) (s t : Sl) (a : Addr), C[i]? = some s → C[j]? = some t → s.own = true → t.own = true → σ[i]? = some (some (V.ref a)) → σ[j]? = some (some (V.ref a)) → i = j
  tb : TbOk F H
theorem Sat.e2 {F H : Hp} {σ : L2.St} {C : Ct} (S : Sat F H σ C) : Ex2 F H := ⟨S.ex, S.tb⟩
/-- what a step may do: the part that stays grows, what is not one's own is kept -/
structure Stp (F H : Hp) (o : Addr → Prop) (F' H' : Hp) (o' : Addr → Prop) : Prop where
  e : Ext F F'
  k : ∀ a u, H a = some u → ¬ o a → ((∀ ps, u ≠ .tbl ps) → H' a = some u) ∧ ¬ o' a ∧ (F a = none → F' a = none)
  t : ∀ a, H' a = none → H a = none
  tb : TbOk F H → TbOk F' H'
theorem Stp.refl {F H : Hp} {o : Addr → Prop} : Stp F H o F H o := ⟨Ext.refl _, fun a u h n => ⟨fun _ => h, n, id⟩, fun _ h => h, id⟩
theorem Stp.trans {F H F1 H1 F2 H2 : Hp} {o o1 o2 : Addr → Prop} (a : Stp F H o F1 H1 o1) (b : Stp F1 H1 o1 F2 H2 o2) : Stp F H o F2 H2 o2 := by
  refine ⟨a.e.trans b.e, fun x u h n => ?_, fun x h => a.t x (b.t x h), fun z => b.tb (a.tb z)⟩
  obtain ⟨h1, n1, f1⟩ := a.k x u h n
  cases q : H1 x with
  | none => rw [a.t x q] at h; cases h
  | some u1 =>
    obtain ⟨h2, n2, f2⟩ := b.k x u1 q n1
    refine ⟨fun hu => ?_, n2, fun z => f2 (f1 z)⟩
    have e := h1 hu
    rw [q] at e; cases e
    exact h2 hu
/-- a step that changes nothing -/
structure XS (F H F' H' : Hp) : Prop where
  f : Ext F F'
  h : ∀ a u, H a = some u → (∀ ps, u ≠ .tbl ps) → H' a = some u
  fh : Ext F' H'
  n : ∀ a u, H a = some u → F a = none → F' a = none
  t : ∀ a, H' a = none → H a = none
  tb : TbOk F H → TbOk F' H'
theorem XS.refl {F H : Hp} (e : Ext F H) : XS F H F H := ⟨Ext.refl _, fun _ _ h _ => h, e, fun _ _ _ n => n, fun _ h => h, id⟩
theorem XS.trans {F H F1 H1 F2 H2 : Hp} (a : XS F H F1 H1) (b : XS F1 H1 F2 H2) : XS F H F2 H2 :=
  ⟨a.f.trans b.f, fun x u h n => b.h x u (a.h x u h n) n, b.fh, fun x u h n => by
    cases q : H1 x with
    | none => rw [a.t x q] at h; cases h
    | some u1 => exact b.n x u1 q (a.n x u h n), fun x h => a.t x (b.t x h), fun z => b.tb (a.tb z)⟩
/-- a new object that stays -/
theorem XS.new {F H : Hp} {p : Addr} {o : HO} (e : Ext F H) (hp : H p = none) (ho : ∀ ps, o ≠ .tbl ps := by intro _ z; cases z) : XS F H (upd F p o) (upd H p o) := by
  refine ⟨Ext.new (e.free hp), fun a u h _ => Ext.new hp a u h, fun a u q => ?_, fun a u q n => ?_, fun a h => (Ext.new hp).free h, fun t => (t.new (e.free hp) ho).upd ho⟩
  · by_cases h : a = p
    · subst h; rw [upd_same] at q ⊢; exact q
    · rw [upd_ne h] at q ⊢; exact e a u q
  · rw [upd_ne (ne_of_none q hp)]; exact n
/-- a new object of one's own -/
theorem XS.fresh {F H : Hp} {p : Addr} {o : HO} (e : Ext F H) (hp : H p = none) (ho : ∀ ps, o ≠ .tbl ps := by intro _ z; cases z) : XS F H F (upd H p o) :=
  ⟨Ext.refl _, fun a u h _ => Ext.new hp a u h, e.trans (Ext.new hp), fun _ _ _ n => n, fun a h => (Ext.new hp).free h, fun t => t.upd ho⟩
/-- one's own object stays from here on -/
theorem XS.freeze {F H F' H' : Hp} {p : Addr} {o : HO} (x : XS F H F' H') (hp : H p = none) (hn : F' p = none) (hh : H' p = some o) (ho : ∀ ps, o ≠ .tbl ps := by intro _ z; cases z) : XS F H (upd F' p o) H' := by
  refine ⟨x.f.trans (Ext.new hn), x.h, fun a u q => ?_, fun a u q n => ?_, x.t, fun t => (x.tb t).new hn ho⟩
  · by_cases h : a = p
    · subst h; rw [upd_same] at q; rw [hh]; exact q
    · rw [upd_ne h] at q; exact x.fh a u q
  · rw [upd_ne (ne_of_none q hp)]; exact x.n a u q n
theorem SlOk.own {F H : Hp} {σ : L2.St} {i : Nat} {s : Sl} (h : SlOk F H σ[i]? s) (o : s.own = true) : ∃ (p : Addr) (u : HO), σ[i]? = some (some (V.ref p)) ∧ H p = some u ∧ F p = none := by
  cases s with
  | any => cases o
  | sh d => cases o
  | ol ds => obtain ⟨p, vs, h1, h2, _, h4⟩ := h; exact ⟨p, _, h1, h2, h4⟩
  | op p ds => obtain ⟨vs, h1, h2, _, h4⟩ := h; exact ⟨p, _, h1, h2, h4⟩
  | sp s => cases o
  | ob s => obtain ⟨p, vs, h1, h2, _, h4⟩ := h; exact ⟨p, _, h1, h2, h4⟩
theorem SlOk.xs {F H F' H' : Hp} {ov : Option (Option V)} {s : Sl} (x : XS F H F' H') (h : SlOk F H ov s) : SlOk F' H' ov s := by
  cases s with
  | any => trivial
  | sh d => obtain ⟨v, h1, h2⟩ := h; exact ⟨v, h1, h2.mono x.f⟩
  | ol ds => obtain ⟨p, vs, h1, h2, h3, h4⟩ := h; exact ⟨p, vs, h1, x.h _ _ h2 (by intro _ z; cases z), h3.mono x.f, x.n _ _ h2 h4⟩
  | op p ds => obtain ⟨vs, h1, h2, h3, h4⟩ := h; exact ⟨vs, h1, x.h _ _ h2 (by intro _ z; cases z), h3.mono x.f, x.n _ _ h2 h4⟩
  | sp s => obtain ⟨v, h1, h2⟩ := h; exact ⟨v, h1, s.mono x.f h2⟩
  | ob s => obtain ⟨p, vs, h1, h2, h3, h4⟩ := h; exact ⟨p, vs, h1, x.h _ _ h2 (s.nt h3), s.mono x.f h3, x.n _ _ h2 h4⟩
theorem Sat.xs {F H F' H' : Hp} {σ : L2.St} {C : Ct} (S : Sat F H σ C) (x : XS F H F' H') : Sat F' H' σ C :=
  ⟨x.fh, S.len, fun i s h => (S.sl i s h).xs x, S.dis, x.tb S.tb⟩
theorem Own.at {F H : Hp} {σ : L2.St} {C : Ct} {a : Addr} (S : Sat F H σ C) (o : Own σ C a) : (∃ u, H a = some u) ∧ F a = none := by
  obtain ⟨i, s, h1, h2, h3⟩ := o
  obtain ⟨p, u, q1, q2, q3⟩ := (S.sl i s h1).own h2
  rw [h3] at q1
  cases q1
  exact ⟨⟨u, q2⟩, q3⟩
theorem XS.stp {F H F' H' : Hp} {o : Addr → Prop} (x : XS F H F' H') : Stp F H o F' H' o :=
  ⟨x.f, fun a u h n => ⟨x.h a u h, n, x.n a u h⟩, x.t, x.tb⟩

/-! ### the judgements -/
/-- an expression's own reading -/
def wpE (X : Cx) (e : Expr) : TE := fun σ H Q => ∀ pins s, Inv X pins σ H s → wpAny (model X.prog X.w) X.A (eval e X.env) (EP X pins σ Q) X.xe s
theorem pe_wp {X : Cx} {e : Expr} : PE X e (wpE X e) := ⟨fun pins s σ H Q I h => h pins s I⟩
theorem wpE_of {X : Cx} {e : Expr} {t : TE} {σ : L2.St} {H : Hp} {Q : VK} (h : PE X e t) (q : t σ H Q) : wpE X e σ H Q := fun pins s I => h.run pins s σ H Q I q
def wpT (X : Cx) (e : Expr) : TT := fun σ H Q => ∀ pins s, Inv X pins σ H s → wpAny (model X.prog X.w) X.A (isTrue e X.env (eval e X.env)) (TP X pins σ Q) X.xe s
theorem pt_wp {X : Cx} {e : Expr} : PT X e (wpT X e) := ⟨fun pins s σ H Q I h => h pins s I⟩
theorem wpT_of {X : Cx} {e : Expr} {t : TT} {σ : L2.St} {H : Hp} {Q : Bool → Hp → Prop} (h : PT X e t) (q : t σ H Q) : wpT X e σ H Q := fun pins s I => h.run pins s σ H Q I q
/-- readable: it stays, or it is a list of one's own -/
def Rd1 (F H : Hp) (v : V) (d : D) : Prop := R F v d ∨ ∃ a vs ds, v = .ref a ∧ d = .list ds ∧ H a = some (.lst vs) ∧ RA F vs ds
def RT (F : Hp) (σ : L2.St) (C : Ct) (v : V) (d : D) : Prop := R F v d ∨ ∃ (i : Nat) (s : Sl) (ds : List D), C[i]? = some s ∧ (s = .ol ds ∨ ∃ p, s = .op p ds) ∧ σ[i]? = some (some v) ∧ d = .list ds
theorem RT.rd {F H : Hp} {σ : L2.St} {C : Ct} {v : V} {d : D} (S : Sat F H σ C) (r : RT F σ C v d) : Rd1 F H v d := by
  rcases r with r | ⟨i, s, ds, h1, h2, h3, rfl⟩
  · exact .inl r
  · have q := S.sl i s h1
    rcases h2 with rfl | ⟨p, rfl⟩
    · obtain ⟨p, vs, q1, q2, q3, q4⟩ := q
      rw [h3] at q1; cases q1
      exact .inr ⟨p, vs, ds, rfl, rfl, q2, q3⟩
    · obtain ⟨vs, q1, q2, q3, q4⟩ := q
      rw [h3] at q1; cases q1
      exact .inr ⟨p, vs, ds, rfl, rfl, q2, q3⟩
theorem RT.mono {F F' : Hp} {σ : L2.St} {C : Ct} {v : V} {d : D} (e : Ext F F') (r : RT F σ C v d) : RT F' σ C v d := r.imp (fun r => r.mono e) id
def GE (X : Cx) (e : Expr) (C : Ct) (d : D) (C' : Ct) : Prop := ∀ F H σ, Sat F H σ C → ∀ Q : VK,
  (∀ v F' H', Stp F H (Own σ C) F' H' (Own σ C') → Sat F' H' σ C' → R F' v d → Q v H') → wpE X e σ H Q
def GV (X : Cx) (e : Expr) (C : Ct) (d : D) (C' : Ct) : Prop := ∀ F H σ, Sat F H σ C → ∀ Q : VK,
  (∀ v F' H', Stp F H (Own σ C) F' H' (Own σ C') → Sat F' H' σ C' → RT F' σ C' v d → Q v H') → wpE X e σ H Q
/-- a new list of one's own -/
def GL (X : Cx) (e : Expr) (C : Ct) (ds : List D) (C' : Ct) : Prop := ∀ F H σ, Sat F H σ C → ∀ Q : VK,
  (∀ p vs F' H', Stp F H (Own σ C) F' H' (Own σ C') → Sat F' H' σ C' → H p = none → H' p = some (.lst vs) → RA F' vs ds → F' p = none → ¬ Own σ C' p → Q (.ref p) H') → wpE X e σ H Q
def GT (X : Cx) (e : Expr) (C : Ct) (b : Bool) (C' : Ct) : Prop := ∀ F H σ, Sat F H σ C → ∀ Q : Bool → Hp → Prop,
  (∀ F' H', Stp F H (Own σ C) F' H' (Own σ C') → Sat F' H' σ C' → Q b H') → wpT X e σ H Q
section
variable {X : Cx} {e : Expr} {C C' : Ct} {d : D} {ds : List D}
theorem GE.gv (h : GE X e C d C') : GV X e C d C' := fun F H σ S Q q => h F H σ S Q fun v F' H' s S' r => q v F' H' s S' (.inl r)
/-- freeze -/
theorem Sat.freeze {F H : Hp} {σ : L2.St} {C : Ct} {p : Addr} {o : HO} (S : Sat F H σ C) (hn : F p = none) (hh : H p = some o) (ho : ¬ Own σ C p) (hu : ∀ ps, o ≠ .tbl ps := by intro _ z; cases z) : Sat (upd F p o) H σ C := by
  have e : Ext F (upd F p o) := Ext.new hn
  refine ⟨fun a u q => ?_, S.len, fun i s h => ?_, S.dis, S.tb.new hn hu⟩
  · by_cases h : a = p
    · subst h; rw [upd_same] at q; rw [hh]; exact q
    · rw [upd_ne h] at q; exact S.ex a u q
  · have q := S.sl i s h
    have ne : s.own = true → ∀ a, σ[i]? = some (some (.ref a)) → a ≠ p := fun w a z y => ho ⟨i, s, h, w, y ▸ z⟩
    cases s with
    | any => trivial
    | sh d => obtain ⟨v, h1, h2⟩ := q; exact ⟨v, h1, h2.mono e⟩
    | ol ds => obtain ⟨a, vs, h1, h2, h3, h4⟩ := q; exact ⟨a, vs, h1, h2, h3.mono e, by rw [upd_ne (ne rfl a h1)]; exact h4⟩
    | op a ds => obtain ⟨vs, h1, h2, h3, h4⟩ := q; exact ⟨vs, h1, h2, h3.mono e, by rw [upd_ne (ne rfl a h1)]; exact h4⟩
    | sp s => obtain ⟨v, h1, h2⟩ := q; exact ⟨v, h1, s.mono e h2⟩
    | ob s => obtain ⟨a, vs, h1, h2, h3, h4⟩ := q; exact ⟨a, vs, h1, h2, s.mono e h3, by rw [upd_ne (ne rfl a h1)]; exact h4⟩
theorem Stp.freeze {F H F' H' : Hp} {o o' : Addr → Prop} {p : Addr} {u : HO} (s : Stp F H o F' H' o') (hp : H p = none) (hn : F' p = none) (hu : ∀ ps, u ≠ .tbl ps := by intro _ z; cases z) : Stp F H o (upd F' p u) H' o' :=
  ⟨s.e.trans (Ext.new hn), fun a w h n => by
    obtain ⟨h1, h2, h3⟩ := s.k a w h n
    refine ⟨h1, h2, fun z => ?_⟩
    rw [upd_ne (ne_of_none h hp)]
    exact h3 z, s.t, fun t => (s.tb t).new hn hu⟩
theorem GL.ge (h : GL X e C ds C') : GE X e C (.list ds) C' := fun F H σ S Q q => h F H σ S Q fun p vs F' H' s S' hp hh r hn ho =>
  q _ (upd F' p (.lst vs)) H' (s.freeze hp hn) (S'.freeze hn hh ho) (.lst (.of upd_same) (r.mono (Ext.new hn)))
theorem GL.v (h : GL X e C ds C') : GV X e C (.list ds) C' := h.ge.gv
end
end G
/-! G2: the rules of expressions. -/
namespace G
open PySem L2

/-! ### operations that may fail, of whole numbers and sequences -/
def pmul (a b : Int) : Option Int := if a.natAbs.log2 + b.natAbs.log2 < 1000000 then some (a * b) else none
def pdiv (a b : Int) : Option Int := if b ≠ 0 ∧ b.natAbs.log2 < 9000 then some (a.fdiv b) else none
def pmod (a b : Int) : Option Int := if b ≠ 0 then some (a.fmod b) else none
def idx {α : Type} (xs : List α) (i : Int) : Option α := atI xs i
theorem ixN_map {α β : Type} (f : α → β) (xs : List α) (i : Int) : atI (xs.map f) i = (atI xs i).map f := by
  unfold atI
  rw [List.length_map]
  cases ixN xs.length i with
  | none => rfl
  | some j => simp
def cut {α : Type} (xs : List α) (lo hi : Option Int) : List α := (xs.drop (HT.sIx xs.length 0 lo)).take (HT.sIx xs.length xs.length hi - HT.sIx xs.length 0 lo)

section
variable {F H : Hp}
theorem Rd1.list (e : Ext F H) {v : V} {ds : List D} (r : Rd1 F H v (.list ds)) : ∃ a vs, v = .ref a ∧ Rd H a (.lst vs) ∧ RA F vs ds := by
  rcases r with r | ⟨a, vs, ds', rfl, e1, h1, h2⟩
  · cases r with
    | lst h1 h2 => exact ⟨_, _, rfl, e.rd h1, h2⟩
  · cases e1; exact ⟨a, vs, rfl, .of h1, h2⟩
theorem Rd1.tuple (e : Ext F H) {v : V} {ds : List D} (r : Rd1 F H v (.tuple ds)) : ∃ a vs, v = .ref a ∧ F a = some (.tup vs) ∧ H a = some (.tup vs) ∧ RA F vs ds := by
  rcases r with r | ⟨a, vs, ds', rfl, e1, h1, h2⟩
  · cases r with
    | tup h1 h2 => exact ⟨_, _, rfl, h1, e _ _ h1, h2⟩
  · cases e1
theorem Rd1.int {v : V} {i : Int} (r : Rd1 F H v (.int i)) : v = .int i := by
  rcases r with r | ⟨a, vs, ds', rfl, e1, h1, h2⟩
  · cases r; rfl
  · cases e1
theorem Rd1.bool {v : V} {i : Bool} (r : Rd1 F H v (.bool i)) : v = .bl i := by
  rcases r with r | ⟨a, vs, ds', rfl, e1, h1, h2⟩
  · cases r; rfl
  · cases e1
theorem Rd1.str {v : V} {i : Str} (r : Rd1 F H v (.str i)) : v = .str i := by
  rcases r with r | ⟨a, vs, ds', rfl, e1, h1, h2⟩
  · cases r; rfl
  · cases e1
theorem Rd1.dp {K : PySem.W.Frag} (e : Ext F H) {v : V} {d : D} (r : Rd1 F H v d) : Dp K H v d := by
  rcases r with r | ⟨a, vs, ds, rfl, rfl, h1, h2⟩
  · exact r.dp e
  · exact .lst (.of h1) (h2.dp e)
/-- a sequence: a list or a tuple -/
def sq : D → Option (List D)
  | .list ds => some ds
  | .tuple ds => some ds
  | _ => none
theorem Rd1.seq {K : PySem.W.Frag} (e : Ext F H) {v : V} {d : D} {ds : List D} (r : Rd1 F H v d) (hs : sq d = some ds) : ∃ a vs, v = .ref a ∧ (SqL K H a vs ∨ SqT K H a vs) ∧ RA F vs ds := by
  cases d with
  | list ds' => cases hs; obtain ⟨a, vs, rfl, h1, h2⟩ := r.list e; exact ⟨a, vs, rfl, .inl (.inl h1), h2⟩
  | tuple ds' => cases hs; obtain ⟨a, vs, rfl, _, h1, h2⟩ := r.tuple e; exact ⟨a, vs, rfl, .inr (.of h1), h2⟩
  | _ => cases hs
end

/-! ### operations by values -/
abbrev R1 := V → Hp → VK → Prop
/-- gives a value that stands for d -/
def V1 (r : R1) (d1 d : D) : Prop := ∀ F H v, Ext F H → Rd1 F H v d1 → ∀ Q : VK, (∀ v' F' H', XS F H F' H' → R F' v' d → Q v' H') → r v H Q
def V2 (r : R2) (d1 d2 d : D) : Prop := ∀ F H v1 v2, Ext F H → Rd1 F H v1 d1 → Rd1 F H v2 d2 → ∀ Q : VK, (∀ v' F' H', XS F H F' H' → R F' v' d → Q v' H') → r v1 v2 H Q
/-- gives a new list -/
def V1L (r : R1) (d1 : D) (ds : List D) : Prop := ∀ F H v, Ext F H → Rd1 F H v d1 → ∀ Q : VK, (∀ p vs, H p = none → RA F vs ds → Q (.ref p) (upd H p (.lst vs))) → r v H Q
def V2L (r : R2) (d1 d2 : D) (ds : List D) : Prop := ∀ F H v1 v2, Ext F H → Rd1 F H v1 d1 → Rd1 F H v2 d2 → ∀ Q : VK, (∀ p vs, H p = none → RA F vs ds → Q (.ref p) (upd H p (.lst vs))) → r v1 v2 H Q

section
variable {X : Cx} {a b c e : Expr} {C C1 C2 C3 C' : Ct} {d d1 d2 d3 : D} {ds : List D} {pos : Pos} {i j : Int}
/-- what is readable stays readable behind steps that change no slot -/
theorem RT.same {F H F' H' : Hp} {σ : L2.St} {v : V} (s : Stp F H (Own σ C) F' H' (Own σ C)) (r : RT F σ C v d) : RT F' σ C v d := r.mono s.e
theorem own_new {F' H' : Hp} {σ : L2.St} {p : Addr} (S : Sat F' H' σ C) (hp : H' p = none) : ¬ Own σ C p := fun o => by
  obtain ⟨⟨u, q⟩, _⟩ := o.at S
  rw [hp] at q; cases q
theorem g_un {r : R1} {op : UnaryOp} (ho : UnR X (unaryOp op) r) (ha : GV X a C d1 C1) (hr : V1 r d1 d) : GE X (.UnaryOp op a pos) C d C1 := fun F H σ S Q q => by
  refine wpE_of (pe_un ho pe_wp) ?_
  refine ha F H σ S _ fun v F1 H1 s1 S1 r1 => hr F1 H1 v S1.ex (r1.rd S1) Q fun v' F' H' x r' => q v' F' H' (s1.trans x.stp) (S1.xs x) r'
/-- two operands, the second changes no slot -/
theorem g_op {r : R2} {op : Operator} (ho : OpR X (binaryOp op) r) (ha : GV X a C d1 C1) (hb : GV X b C1 d2 C1) (hr : V2 r d1 d2 d) : GE X (.BinOp a op b pos) C d C1 := fun F H σ S Q q => by
  refine wpE_of (pe_op ho pe_wp pe_wp) ?_
  refine ha F H σ S _ fun v F1 H1 s1 S1 r1 => hb F1 H1 σ S1 _ fun u F2 H2 s2 S2 r2 => hr F2 H2 v u S2.ex ((r1.same s2).rd S2) (r2.rd S2) Q fun v' F' H' x r' => q v' F' H' ((s1.trans s2).trans x.stp) (S2.xs x) r'
/-- .. the first one's value stays -/
theorem g_opE {r : R2} {op : Operator} (ho : OpR X (binaryOp op) r) (ha : GE X a C d1 C1) (hb : GV X b C1 d2 C2) (hr : V2 r d1 d2 d) : GE X (.BinOp a op b pos) C d C2 := fun F H σ S Q q => by
  refine wpE_of (pe_op ho pe_wp pe_wp) ?_
  refine ha F H σ S _ fun v F1 H1 s1 S1 r1 => hb F1 H1 σ S1 _ fun u F2 H2 s2 S2 r2 => hr F2 H2 v u S2.ex (.inl (r1.mono s2.e)) (r2.rd S2) Q fun v' F' H' x r' => q v' F' H' ((s1.trans s2).trans x.stp) (S2.xs x) r'
theorem g_opL {r : R2} {op : Operator} (ho : OpR X (binaryOp op) r) (ha : GV X a C d1 C1) (hb : GV X b C1 d2 C1) (hr : V2L r d1 d2 ds) : GL X (.BinOp a op b pos) C ds C1 := fun F H σ S Q q => by
  refine wpE_of (pe_op ho pe_wp pe_wp) ?_
  refine ha F H σ S _ fun v F1 H1 s1 S1 r1 => hb F1 H1 σ S1 _ fun u F2 H2 s2 S2 r2 => hr F2 H2 v u S2.ex ((r1.same s2).rd S2) (r2.rd S2) Q fun p vs hp r' => ?_
  have x : XS F2 H2 F2 (upd H2 p (.lst vs)) := XS.fresh S2.ex hp
  have S' := S2.xs x
  have hp0 : H p = none := (s1.trans s2).t p hp
  exact q p vs F2 _ ((s1.trans s2).trans x.stp) S' hp0 upd_same r' (S2.ex.free hp) (fun o => by
    obtain ⟨⟨u, z⟩, _⟩ := o.at S2
    rw [hp] at z; cases z)

/-! ### names, constants -/
theorem g_v (i : Nat) {x : Str} (hC : C[i]? = some (.sh d)) (hN : X.N[i]? = some x := by rfl) (hv : Vis X.env.scope x := by first | exact Or.inl rfl | exact Or.inr (Or.inl rfl) | exact Or.inr (Or.inr rfl)) (hd : (x == ("__debug__" : Str)) = false := by decide)
    (hcd : (x == ("__classdict__" : Str)) = false := by decide) : GE X (.Name x pos) C d C := fun F H σ S Q q => by
  refine wpE_of (pe_var hN hv hd hcd) ?_
  obtain ⟨v, e, r⟩ := S.sl i _ hC
  exact ⟨v, e, q v F H .refl S r⟩
/-- a list of one's own, read -/
theorem g_vo (i : Nat) {x : Str} (hC : C[i]? = some (.ol ds)) (hN : X.N[i]? = some x := by rfl) (hv : Vis X.env.scope x := by first | exact Or.inl rfl | exact Or.inr (Or.inl rfl) | exact Or.inr (Or.inr rfl)) (hd : (x == ("__debug__" : Str)) = false := by decide)
    (hcd : (x == ("__classdict__" : Str)) = false := by decide) : GV X (.Name x pos) C (.list ds) C := fun F H σ S Q q => by
  refine wpE_of (pe_var hN hv hd hcd) ?_
  obtain ⟨p, vs, e, h1, h2, h3⟩ := S.sl i _ hC
  exact ⟨_, e, q _ F H .refl S (.inr ⟨i, _, ds, hC, .inl rfl, e, rfl⟩)⟩
theorem g_vp (i : Nat) {x : Str} {p : Addr} (hC : C[i]? = some (.op p ds)) (hN : X.N[i]? = some x := by rfl) (hv : Vis X.env.scope x := by first | exact Or.inl rfl | exact Or.inr (Or.inl rfl) | exact Or.inr (Or.inr rfl)) (hd : (x == ("__debug__" : Str)) = false := by decide)
    (hcd : (x == ("__classdict__" : Str)) = false := by decide) : GV X (.Name x pos) C (.list ds) C := fun F H σ S Q q => by
  refine wpE_of (pe_var hN hv hd hcd) ?_
  obtain ⟨vs, e, h1, h2, h3⟩ := S.sl i _ hC
  exact ⟨_, e, q _ F H .refl S (.inr ⟨i, _, ds, hC, .inr ⟨p, rfl⟩, e, rfl⟩)⟩
theorem Own.set_sh {σ : L2.St} {i : Nat} {s : Sl} {a : Addr} (hs : s.own = false) (o : Own σ (C.set i s) a) : Own σ C a := by
  obtain ⟨j, t, h1, h2, h3⟩ := o
  by_cases hj : i = j
  · subst hj
    by_cases hl : i < C.length
    · rw [List.getElem?_set_self hl] at h1
      cases h1
      rw [hs] at h2; cases h2
    · rw [List.getElem?_eq_none (by rw [List.length_set]; omega)] at h1; cases h1
  · rw [List.getElem?_set_ne hj] at h1
    exact ⟨j, t, h1, h2, h3⟩
/-- a slot is told anew -/
theorem Sat.re {F H : Hp} {σ : L2.St} {i : Nat} {s : Sl} (S : Sat F H σ C) (hs : s.own = false) (ok : SlOk F H σ[i]? s) : Sat F H σ (C.set i s) := by
  have low : ∀ (j : Nat) (t : Sl), (C.set i s)[j]? = some t → (j = i ∧ t = s) ∨ C[j]? = some t := fun j t h => by
    by_cases hj : i = j
    · subst hj
      by_cases hi : i < C.length
      · rw [List.getElem?_set_self hi] at h
        exact .inl ⟨rfl, (Option.some.inj h).symm⟩
      · rw [List.getElem?_eq_none (by rw [List.length_set]; omega)] at h; cases h
    · rw [List.getElem?_set_ne hj] at h
      exact .inr h
  refine ⟨S.ex, by rw [List.length_set]; exact S.len, fun j t h => ?_, fun j k t u a h1 h2 h3 h4 h5 h6 => ?_, S.tb⟩
  · rcases low j t h with ⟨rfl, rfl⟩ | h
    · exact ok
    · exact S.sl j t h
  · rcases low j t h1 with ⟨rfl, rfl⟩ | h1
    · rw [hs] at h3; cases h3
    · rcases low k u h2 with ⟨rfl, rfl⟩ | h2
      · rw [hs] at h4; cases h4
      · exact S.dis j k t u a h1 h2 h3 h4 h5 h6
theorem Sat.off {F H : Hp} {σ : L2.St} {i : Nat} {p : Addr} (S : Sat F H σ C) {s : Sl} (hC : C[i]? = some s) (ho : s.own = true) (e : σ[i]? = some (some (.ref p))) {t : Sl} (ht : t.own = false) : ¬ Own σ (C.set i t) p := fun o => by
  have hi : i < C.length := (List.getElem?_eq_some_iff.mp hC).1
  obtain ⟨j, u, q1, q2, q3⟩ := o
  by_cases hj : i = j
  · subst hj
    rw [List.getElem?_set_self hi] at q1
    cases q1; rw [ht] at q2; cases q2
  · rw [List.getElem?_set_ne hj] at q1
    exact hj (S.dis i j _ u p hC q1 ho q2 e q3)
/-- a list of one's own stays from here on -/
theorem g_frz (i : Nat) {x : Str} (hC : C[i]? = some (.ol ds)) (hN : X.N[i]? = some x := by rfl) (hv : Vis X.env.scope x := by first | exact Or.inl rfl | exact Or.inr (Or.inl rfl) | exact Or.inr (Or.inr rfl)) (hd : (x == ("__debug__" : Str)) = false := by decide)
    (hcd : (x == ("__classdict__" : Str)) = false := by decide) : GE X (.Name x pos) C (.list ds) (C.set i (.sh (.list ds))) := fun F H σ S Q q => by
  refine wpE_of (pe_var hN hv hd hcd) ?_
  obtain ⟨p, vs, e, h1, h2, h3⟩ := S.sl i _ hC
  have ee : Ext F (upd F p (.lst vs)) := Ext.new h3
  have r' : R (upd F p (.lst vs)) (.ref p) (.list ds) := .lst (.of upd_same) (h2.mono ee)
  have op : Own σ C p := ⟨i, _, hC, rfl, e⟩
  have S1 : Sat F H σ (C.set i .any) := S.re rfl trivial
  have S2 := S1.freeze h3 h1 (S.off hC rfl e rfl)
  have S3 : Sat (upd F p (.lst vs)) H σ ((C.set i .any).set i (.sh (.list ds))) := S2.re rfl ⟨_, e, r'⟩
  rw [List.set_set] at S3
  refine ⟨_, e, q _ (upd F p (.lst vs)) H ⟨ee, fun a u h n => ⟨fun _ => h, fun o => n (o.set_sh rfl), fun z => ?_⟩, fun _ h => h, fun t => t.new h3 (by intro _ z; cases z)⟩ S3 r'⟩
  have ne : a ≠ p := fun y => n (y ▸ op)
  rw [upd_ne ne]; exact z
theorem g_int {i : Int} {j} : GE X (.Constant (.int i) j pos) C (.int i) C := fun F H σ S Q q => wpE_of pe_int (q _ F H .refl S (.int i))
theorem g_bl {i : Bool} {j} : GE X (.Constant (.bool i) j pos) C (.bool i) C := fun F H σ S Q q => wpE_of pe_bl (q _ F H .refl S (.bl i))
theorem g_non {j} : GE X (.Constant .none j pos) C .none C := fun F H σ S Q q => wpE_of pe_non (q _ F H .refl S .non)
theorem g_str {i : Str} {j} : GE X (.Constant (.str i) j pos) C (.str i) C := fun F H σ S Q q => wpE_of pe_str (q _ F H .refl S (.str i))
theorem g_globI {x : Str} {i : Int} {t : Tok} (hm : X.mg x = some (.int i t)) (hg : Gl X x := by rfl) (hd : (x == ("__debug__" : Str)) = false := by decide) : GE X (.Name x pos) C (.int i) C := fun F H σ S Q q =>
  wpE_of (pe_glob hg hm (v := .int i) ⟨_, rfl⟩ hd) (q _ F H .refl S (.int i))
theorem g_globS {x : Str} {i : Str} {t : Tok} (hm : X.mg x = some (.str i t)) (hg : Gl X x := by rfl) (hd : (x == ("__debug__" : Str)) = false := by decide) : GE X (.Name x pos) C (.str i) C := fun F H σ S Q q =>
  wpE_of (pe_glob hg hm (v := .str i) ⟨_, rfl⟩ hd) (q _ F H .refl S (.str i))

/-! ### argument lists, displays -/
def wpA (X : Cx) (es : List Expr) : TA := fun σ H Q => ∀ pos pins s, Inv X pins σ H s → wpAny (model X.prog X.w) X.A (spliced (backTo pos (starEach es X.env))) (AP X pins σ Q) X.xe s
theorem pa_wp {es : List Expr} : PA X es (wpA X es) := ⟨fun pos pins s σ H Q I h => h pos pins s I⟩
theorem wpA_of {es : List Expr} {t : TA} {σ : L2.St} {H : Hp} {Q : List V → Hp → Prop} (h : PA X es t) (q : t σ H Q) : wpA X es σ H Q := fun pos pins s I => h.run pos pins s σ H Q I q
def GA (X : Cx) (es : List Expr) (C : Ct) (ds : List D) (C' : Ct) : Prop := ∀ F H σ, Sat F H σ C → ∀ Q : List V → Hp → Prop,
  (∀ vs F' H', Stp F H (Own σ C) F' H' (Own σ C') → Sat F' H' σ C' → RA F' vs ds → Q vs H') → wpA X es σ H Q
theorem ga_nil : GA X [] C [] C := fun F H σ S Q q => wpA_of pa_nil (q [] F H .refl S .nil)
theorem ga_cons {es : List Expr} (ha : GE X a C d C1) (h : GA X es C1 ds C2) (hs : starEach (a :: es) X.env = (false, eval a X.env) :: starEach es X.env := by rfl) : GA X (a :: es) C (d :: ds) C2 := fun F H σ S Q q => by
  refine wpA_of (pa_cons pe_wp pa_wp hs) ?_
  exact ha F H σ S _ fun v F1 H1 s1 S1 r1 => h F1 H1 σ S1 _ fun vs F2 H2 s2 S2 r2 => q _ F2 H2 (s1.trans s2) S2 (.cons (r1.mono s2.e) r2)
theorem g_tup {es : List Expr} {x1} (h : GA X es C ds C1) (hl : ds.length ≤ sizeLine := by exact Nat.le_of_ble_eq_true rfl) : GE X (.Tuple es x1 pos) C (.tuple ds) C1 := fun F H σ S Q q => by
  refine wpE_of (pe_tup pa_wp) ?_
  refine h F H σ S _ fun vs F1 H1 s1 S1 r1 => ⟨by rw [r1.length]; exact hl, fun p hp => ?_⟩
  have x : XS F1 H1 (upd F1 p (.tup vs)) (upd H1 p (.tup vs)) := XS.new S1.ex hp
  exact q _ _ _ (s1.trans x.stp) (S1.xs x) (.tup upd_same (r1.mono x.f))
theorem GL.of {F H F1 H1 : Hp} {σ : L2.St} {Q : VK} (q : ∀ p vs F' H', Stp F H (Own σ C) F' H' (Own σ C1) → Sat F' H' σ C1 → H p = none → H' p = some (.lst vs) → RA F' vs ds → F' p = none → ¬ Own σ C1 p → Q (.ref p) H')
    (s : Stp F H (Own σ C) F1 H1 (Own σ C1)) (S : Sat F1 H1 σ C1) {p : Addr} {vs : List V} (hp : H1 p = none) (r : RA F1 vs ds) : Q (.ref p) (upd H1 p (.lst vs)) := by
  have x : XS F1 H1 F1 (upd H1 p (.lst vs)) := XS.fresh S.ex hp
  exact q p vs F1 _ (s.trans x.stp) (S.xs x) (s.t p hp) upd_same r (S.ex.free hp) (own_new S hp)
theorem g_lst {es : List Expr} (h : GA X es C ds C1) (hl : ds.length ≤ sizeLine := by exact Nat.le_of_ble_eq_true rfl) : GL X (.List es pos) C ds C1 := fun F H σ S Q q => by
  refine wpE_of (pe_lst pa_wp) ?_
  exact h F H σ S _ fun vs F1 H1 s1 S1 r1 => ⟨by rw [r1.length]; exact hl, fun p hp => GL.of q s1 S1 hp r1⟩

/-! ### whole numbers -/
theorem v_add : V2 (rI0 fun i j => .int (i + j)) (.int i) (.int j) (.int (i + j)) := fun F H v1 v2 e r1 r2 Q q => ⟨i, j, r1.int, r2.int, q _ F H (.refl e) (.int _)⟩
theorem v_sub : V2 (rI0 fun i j => .int (i - j)) (.int i) (.int j) (.int (i - j)) := fun F H v1 v2 e r1 r2 Q q => ⟨i, j, r1.int, r2.int, q _ F H (.refl e) (.int _)⟩
theorem v_mul {k : Int} (h : pmul i j = some k) : V2 (rI CMulW fun i j => .int (i * j)) (.int i) (.int j) (.int k) := fun F H v1 v2 e r1 r2 Q q => by
  unfold pmul at h
  split at h
  · rename_i hc
    cases h
    exact ⟨i, j, r1.int, r2.int, hc, q _ F H (.refl e) (.int _)⟩
  · cases h
def CDivX (_ j : Int) : Prop := j ≠ 0 ∧ j.natAbs.log2 < 9000
theorem op_fdivX : OpR X (binaryOp .FloorDiv) (rI CDivX fun i j => .int (i.fdiv j)) := opI fun i j _ _ _ _ _ hc q => PyProof.Rows.floordiv_int hc.1 q (.inl (PyProof.noPylong_of_log2 hc.2))
theorem v_div {k : Int} (h : pdiv i j = some k) : V2 (rI CDivX fun i j => .int (i.fdiv j)) (.int i) (.int j) (.int k) := fun F H v1 v2 e r1 r2 Q q => by
  unfold pdiv at h
  split at h
  · rename_i hc
    cases h
    exact ⟨i, j, r1.int, r2.int, hc, q _ F H (.refl e) (.int _)⟩
  · cases h
theorem v_mod {k : Int} (h : pmod i j = some k) : V2 (rI (fun _ j => j ≠ 0) fun i j => .int (i.fmod j)) (.int i) (.int j) (.int k) := fun F H v1 v2 e r1 r2 Q q => by
  unfold pmod at h
  split at h
  · rename_i hc
    cases h
    exact ⟨i, j, r1.int, r2.int, hc, q _ F H (.refl e) (.int _)⟩
  · cases h
theorem g_add (ha : GE X a C (.int i) C1) (hb : GE X b C1 (.int j) C2) : GE X (.BinOp a .Add b pos) C (.int (i + j)) C2 := g_opE op_add ha hb.gv v_add
theorem g_sub (ha : GE X a C (.int i) C1) (hb : GE X b C1 (.int j) C2) : GE X (.BinOp a .Sub b pos) C (.int (i - j)) C2 := g_opE op_sub ha hb.gv v_sub
theorem g_mul {k : Int} (h : pmul i j = some k) (ha : GE X a C (.int i) C1) (hb : GE X b C1 (.int j) C2) : GE X (.BinOp a .Mult b pos) C (.int k) C2 := g_opE op_mulW ha hb.gv (v_mul h)
theorem g_div {k : Int} (h : pdiv i j = some k) (ha : GE X a C (.int i) C1) (hb : GE X b C1 (.int j) C2) : GE X (.BinOp a .FloorDiv b pos) C (.int k) C2 := g_opE op_fdivX ha hb.gv (v_div h)
theorem g_mod {k : Int} (h : pmod i j = some k) (ha : GE X a C (.int i) C1) (hb : GE X b C1 (.int j) C2) : GE X (.BinOp a .Mod b pos) C (.int k) C2 := g_opE op_modN ha hb.gv (v_mod h)
theorem g_neg (ha : GE X a C (.int i) C1) : GE X (.UnaryOp .USub a pos) C (.int (-i)) C1 := g_un un_neg ha.gv fun F H v e r Q q => ⟨i, r.int, q _ F H (.refl e) (.int _)⟩

/-! ### + and * of sequences -/
theorem v_catT {ds es : List D} (hz : ds.length + es.length ≤ sizeLine) : V2 (rCatA X.K) (.tuple ds) (.tuple es) (.tuple (ds ++ es)) := fun F H v1 v2 e r1 r2 Q q => by
  obtain ⟨a, vs, rfl, f1, h1, q1⟩ := r1.tuple e
  obtain ⟨b, us, rfl, f2, h2, q2⟩ := r2.tuple e
  refine ⟨a, b, vs, us, rfl, rfl, .of h1, .of h2, by rw [q1.length, q2.length]; exact hz, ?_, ?_, ?_⟩
  · rintro rfl
    cases q1
    exact q _ F H (.refl e) (.tup f2 q2)
  · rintro _ rfl
    cases q2
    exact q _ F H (.refl e) (.tup f1 (by rw [List.append_nil]; exact q1))
  · intro _ _ p hp
    have x : XS F H (upd F p (.tup (vs ++ us))) (upd H p (.tup (vs ++ us))) := XS.new e hp
    exact q _ _ _ x (.tup upd_same ((q1.append q2).mono x.f))
def szOk (n : Nat) : Option Unit := if n ≤ sizeLine then some () else none
theorem szOk_le {n : Nat} {u : Unit} (h : szOk n = some u) : n ≤ sizeLine := by
  unfold szOk at h
  split at h
  · assumption
  · cases h
theorem g_catT {ds es : List D} (hz : ds.length + es.length ≤ sizeLine) (ha : GE X a C (.tuple ds) C1) (hb : GE X b C1 (.tuple es) C2) : GE X (.BinOp a .Add b pos) C (.tuple (ds ++ es)) C2 := g_opE op_catA ha hb.gv (v_catT hz)
def rCatR : R2 := fun x y H Q => ∃ l b xs zs, x = .ref l ∧ y = .ref b ∧ Rd H l (.lst xs) ∧ Rd H b (.lst zs) ∧ xs.length + zs.length ≤ sizeLine ∧ ∀ p, H p = none → Q (.ref p) (upd H p (.lst (xs ++ zs)))
theorem op_catR : OpR X (binaryOp .Add) rCatR := by
  intro pins s σ H x y v u Q I rx ry h
  obtain ⟨l, b, xs, zs, rfl, rfl, hH, hB, hz, q⟩ := h
  cases rx
  cases ry
  obtain ⟨z, its, n, r, e⟩ := hH.ok I.hok
  obtain ⟨z2, its2, n2, r2, e2⟩ := hB.ok I.hok
  refine PySem.P.add_list e e2 ?_ (by rw [List.size_toArray, List.size_toArray, ← r.length, ← r2.length]; omega)
  have ea : its.toArray ++ its2.toArray = (its ++ its2).toArray := by simp
  rw [ea]
  exact ⟨.ref _, _, I.lnew (t' := s.toks) (r.append r2) (by rw [List.length_append]; omega), rfl, q _ I.fresh⟩
theorem g_catL {ds es : List D} (hz : ds.length + es.length ≤ sizeLine) (ha : GV X a C (.list ds) C1) (hb : GV X b C1 (.list es) C1) : GL X (.BinOp a .Add b pos) C (ds ++ es) C1 := g_opL op_catR ha hb fun F H v1 v2 e r1 r2 Q q => by
  obtain ⟨a, vs, rfl, h1, q1⟩ := r1.list e
  obtain ⟨b, us, rfl, h2, q2⟩ := r2.list e
  exact ⟨a, b, vs, us, rfl, rfl, h1, h2, by rw [q1.length, q2.length]; exact hz, fun p hp => q p _ hp (q1.append q2)⟩
theorem RA.rep {F : Hp} {vs : List V} (r : RA F vs ds) : ∀ n : Nat, RA F (List.replicate n vs).flatten (List.replicate n ds).flatten
  | 0 => .nil
  | n + 1 => by
    rw [List.replicate_succ, List.replicate_succ, List.flatten_cons, List.flatten_cons]
    exact r.append (RA.rep r n)
theorem g_repL {ds : List D} {k : Int} (hk : k ≤ 1000) (hk0 : -1000 ≤ k) (hz : ds.length ≤ 1000) (ha : GL X a C ds C1) (hb : GE X b C1 (.int k) C1) : GL X (.BinOp a .Mult b pos) C (List.replicate k.toNat ds).flatten C1 := fun F H σ S Q q => by
  refine wpE_of (pe_op op_rep pe_wp pe_wp) ?_
  refine ha F H σ S _ fun l vs F1 H1 s1 S1 h1 h2 h3 h4 h5 => hb F1 H1 σ S1 _ fun u F2 H2 s2 S2 r2 => ?_
  cases r2
  obtain ⟨g1, g2, g3⟩ := s2.k l _ h2 h5
  have g1 := g1 (by intro _ z; cases z)
  refine ⟨l, k, vs, rfl, rfl, g1, by omega, by omega, ?_, fun p hp => GL.of q (s1.trans s2) S2 hp ((h3.mono s2.e).rep _)⟩
  rw [h3.length, sizeLine_eq]
  have := Nat.mul_le_mul hz (show k.toNat ≤ 1000 by omega)
  omega

/-! ### comparisons -/
theorem g_cmp {r : R2} {op : CmpOp} (ho : OpR X (compareOp op) r) (ha : GV X a C d1 C1) (hb : GV X b C1 d2 C1) (hr : V2 r d1 d2 d) (hm : behindInMarks op b = false) : GE X (.Compare a [op] [b] pos) C d C1 := fun F H σ S Q q => by
  refine wpE_of (pe_cmpR ho pe_wp pe_wp hm) ?_
  refine ha F H σ S _ fun v F1 H1 s1 S1 r1 => hb F1 H1 σ S1 _ fun u F2 H2 s2 S2 r2 => hr F2 H2 v u S2.ex ((r1.same s2).rd S2) (r2.rd S2) Q fun v' F' H' x r' => q v' F' H' ((s1.trans s2).trans x.stp) (S2.xs x) r'
theorem g_cmpE {r : R2} {op : CmpOp} (ho : OpR X (compareOp op) r) (ha : GE X a C d1 C1) (hb : GV X b C1 d2 C2) (hr : V2 r d1 d2 d) (hm : behindInMarks op b = false) : GE X (.Compare a [op] [b] pos) C d C2 := fun F H σ S Q q => by
  refine wpE_of (pe_cmpR ho pe_wp pe_wp hm) ?_
  refine ha F H σ S _ fun v F1 H1 s1 S1 r1 => hb F1 H1 σ S1 _ fun u F2 H2 s2 S2 r2 => hr F2 H2 v u S2.ex (.inl (r1.mono s2.e)) (r2.rd S2) Q fun v' F' H' x r' => q v' F' H' ((s1.trans s2).trans x.stp) (S2.xs x) r'
theorem gt_cmp {r : R2} {op : CmpOp} {k : Bool} (ho : OpR X (compareOp op) r) (ha : GV X a C d1 C1) (hb : GV X b C1 d2 C1) (hr : V2 r d1 d2 (.bool k)) (hm : behindInMarks op b = false) : GT X (.Compare a [op] [b] pos) C k C1 := fun F H σ S Q q => by
  refine wpT_of (pt_cmpR ho pe_wp pe_wp hm) ?_
  refine ha F H σ S _ fun v F1 H1 s1 S1 r1 => hb F1 H1 σ S1 _ fun u F2 H2 s2 S2 r2 => hr F2 H2 v u S2.ex ((r1.same s2).rd S2) (r2.rd S2) _ fun v' F' H' x r' => ?_
  cases r'
  exact ⟨k, rfl, q F' H' ((s1.trans s2).trans x.stp) (S2.xs x)⟩
theorem gt_cmpE {r : R2} {op : CmpOp} {k : Bool} (ho : OpR X (compareOp op) r) (ha : GE X a C d1 C1) (hb : GV X b C1 d2 C2) (hr : V2 r d1 d2 (.bool k)) (hm : behindInMarks op b = false) : GT X (.Compare a [op] [b] pos) C k C2 := fun F H σ S Q q => by
  refine wpT_of (pt_cmpR ho pe_wp pe_wp hm) ?_
  refine ha F H σ S _ fun v F1 H1 s1 S1 r1 => hb F1 H1 σ S1 _ fun u F2 H2 s2 S2 r2 => hr F2 H2 v u S2.ex (.inl (r1.mono s2.e)) (r2.rd S2) _ fun v' F' H' x r' => ?_
  cases r'
  exact ⟨k, rfl, q F' H' ((s1.trans s2).trans x.stp) (S2.xs x)⟩
theorem v_lt : V2 (rI0 fun i j => .bl (decide (i < j))) (.int i) (.int j) (.bool (decide (i < j))) := fun F H v1 v2 e r1 r2 Q q => ⟨i, j, r1.int, r2.int, q _ F H (.refl e) (.bl _)⟩
theorem v_le : V2 (rI0 fun i j => .bl (decide (i ≤ j))) (.int i) (.int j) (.bool (decide (i ≤ j))) := fun F H v1 v2 e r1 r2 Q q => ⟨i, j, r1.int, r2.int, q _ F H (.refl e) (.bl _)⟩
theorem v_gt : V2 (rI0 fun i j => .bl (decide (j < i))) (.int i) (.int j) (.bool (decide (j < i))) := fun F H v1 v2 e r1 r2 Q q => ⟨i, j, r1.int, r2.int, q _ F H (.refl e) (.bl _)⟩
theorem v_ge : V2 (rI0 fun i j => .bl (decide (j ≤ i))) (.int i) (.int j) (.bool (decide (j ≤ i))) := fun F H v1 v2 e r1 r2 Q q => ⟨i, j, r1.int, r2.int, q _ F H (.refl e) (.bl _)⟩
theorem v_eqI : V2 rEq (.int i) (.int j) (.bool (decide (i = j))) := fun F H v1 v2 e r1 r2 Q q => by
  cases r1.int; cases r2.int
  refine ⟨rfl, ?_⟩
  rw [dec_int, Bool.beq_eq_decide_eq]
  exact q _ F H (.refl e) (.bl _)
theorem v_neI : V2 rNe (.int i) (.int j) (.bool (!decide (i = j))) := fun F H v1 v2 e r1 r2 Q q => by
  cases r1.int; cases r2.int
  refine ⟨rfl, ?_⟩
  rw [dec_int, Bool.beq_eq_decide_eq]
  exact q _ F H (.refl e) (.bl _)
theorem v_eq (h1 : SeqAt.shaped d1 = true) (h2 : SeqAt.shaped d2 = true) : V2 (rEqD X.K) d1 d2 (.bool (PyData.eqv d1 d2)) := fun F H v1 v2 e r1 r2 Q q => ⟨d1, d2, r1.dp e, r2.dp e, h1, h2, q _ F H (.refl e) (.bl _)⟩
theorem v_ne (h1 : SeqAt.shaped d1 = true) (h2 : SeqAt.shaped d2 = true) : V2 (rNeD X.K) d1 d2 (.bool (!PyData.eqv d1 d2)) := fun F H v1 v2 e r1 r2 Q q => ⟨d1, d2, r1.dp e, r2.dp e, h1, h2, q _ F H (.refl e) (.bl _)⟩
def isNone : D → Bool
  | .none => true
  | _ => false
theorem v_isN : V2 (fun x y H Q => y = .non ∧ Q (.bl (decide (x = .non))) H) d .none (.bool (isNone d)) := fun F H v1 v2 e r1 r2 Q q => by
  have e2 : v2 = .non := by
    rcases r2 with r | ⟨a, vs, ds, rfl, z, _⟩
    · cases r; rfl
    · cases z
  refine ⟨e2, ?_⟩
  have : decide (v1 = V.non) = isNone d := by
    rcases r1 with r | ⟨a, vs, ds, rfl, rfl, _⟩
    · cases r <;> simp [isNone]
    · simp [isNone]
  rw [this]
  exact q _ F H (.refl e) (.bl _)
theorem v_notN : V2 (fun x y H Q => y = .non ∧ Q (.bl (!decide (x = .non))) H) d .none (.bool (!isNone d)) := fun F H v1 v2 e r1 r2 Q q => by
  have e2 : v2 = .non := by
    rcases r2 with r | ⟨a, vs, ds, rfl, z, _⟩
    · cases r; rfl
    · cases z
  refine ⟨e2, ?_⟩
  have : (!decide (v1 = V.non)) = !isNone d := by
    rcases r1 with r | ⟨a, vs, ds, rfl, rfl, _⟩
    · cases r <;> simp [isNone]
    · simp [isNone]
  rw [this]
  exact q _ F H (.refl e) (.bl _)
/-- x in a sequence of data -/
def isIn (d : D) (ds : List D) : Bool := ds.any fun y => PyData.eqv y d
def rInS (K : PySem.W.Frag) (neg : Bool) : R2 := fun x y H Q => ∃ d e ds, Dp K H x d ∧ Dp K H y e ∧ sq e = some ds ∧ SeqAt.shaped d = true ∧ SeqAt.shaped e = true ∧ Q (.bl (if neg then !isIn d ds else isIn d ds)) H
theorem op_inS {k : Nat} (hr : RoomG k X.A) : OpR X (compareOp .In) (rInS X.K false) := by
  intro pins s σ H x y v u Q I rx ry h
  obtain ⟨d, e, ds, hd, he, hs, sd, se, q⟩ := h
  have hu : X.A.units + 65 < cLine := by have := hr.un; omega
  obtain ⟨as, r1⟩ := Dp.reads I d x v hd rx
  obtain ⟨bs, r2⟩ := Dp.reads I e y u he ry
  cases e with
  | list ds' => cases hs; exact SeqAt.in_list_reads r2 r1 (SeqAt.canLay_of_shaped se) (SeqAt.canLay_of_shaped sd) (PyProof.Rows.room_in_shaped sd hu) ⟨.bl _, H, I, rfl, q⟩
  | tuple ds' => cases hs; exact SeqAt.in_tuple_reads r2 r1 (SeqAt.canLay_of_shaped se) (SeqAt.canLay_of_shaped sd) (PyProof.Rows.room_in_shaped sd hu) ⟨.bl _, H, I, rfl, q⟩
  | _ => cases hs
theorem op_notInS {k : Nat} (hr : RoomG k X.A) : OpR X (compareOp .NotIn) (rInS X.K true) := by
  intro pins s σ H x y v u Q I rx ry h
  obtain ⟨d, e, ds, hd, he, hs, sd, se, q⟩ := h
  have hu : X.A.units + 65 < cLine := by have := hr.un; omega
  obtain ⟨as, r1⟩ := Dp.reads I d x v hd rx
  obtain ⟨bs, r2⟩ := Dp.reads I e y u he ry
  cases e with
  | list ds' => cases hs; exact SeqAt.notIn_list_reads r2 r1 (SeqAt.canLay_of_shaped se) (SeqAt.canLay_of_shaped sd) (PyProof.Rows.room_in_shaped sd hu) ⟨.bl _, H, I, rfl, q⟩
  | tuple ds' => cases hs; exact SeqAt.notIn_tuple_reads r2 r1 (SeqAt.canLay_of_shaped se) (SeqAt.canLay_of_shaped sd) (PyProof.Rows.room_in_shaped sd hu) ⟨.bl _, H, I, rfl, q⟩
  | _ => cases hs
theorem v_in {neg : Bool} (hs : sq d2 = some ds) (h1 : SeqAt.shaped d1 = true) (h2 : SeqAt.shaped d2 = true) : V2 (rInS X.K neg) d1 d2 (.bool (if neg then !isIn d1 ds else isIn d1 ds)) := fun F H v1 v2 e r1 r2 Q q => ⟨d1, d2, ds, r1.dp e, r2.dp e, hs, h1, h2, q _ F H (.refl e) (.bl _)⟩

/-! ### tests, and, or, not -/
theorem gt_val {k : Bool} (h : GE X e C (.bool k) C1) (he : ∀ whole, isTrue e X.env whole = (do let v ← whole; standAt e.pos; holding [v] (truthy v)) := by intro _; rfl) : GT X e C k C1 := fun F H σ S Q q => by
  refine wpT_of (pt_val pe_wp he) ?_
  refine h F H σ S _ fun v F1 H1 s1 S1 r1 => ?_
  cases r1
  exact ⟨k, rfl, q F1 H1 s1 S1⟩
theorem gt_not {k : Bool} (h : GT X a C k C1) : GT X (.UnaryOp .Not a pos) C (!k) C1 := fun F H σ S Q q => wpT_of (pt_not pt_wp) (h F H σ S _ fun F1 H1 s1 S1 => q F1 H1 s1 S1)
def wpW (X : Cx) (e : Expr) : TT := fun σ H Q => ∀ whole pins s, Inv X pins σ H s → wpAny (model X.prog X.w) X.A (isTrue e X.env whole) (TP X pins σ Q) X.xe s
theorem pw_wp {e : Expr} : PW X e (wpW X e) := ⟨fun w pins s σ H Q I h => h w pins s I⟩
theorem wpW_of {e : Expr} {t : TT} {σ : L2.St} {H : Hp} {Q : Bool → Hp → Prop} (h : PW X e t) (q : t σ H Q) : wpW X e σ H Q := fun w pins s I => h.run w pins s σ H Q I q
def GW (X : Cx) (e : Expr) (C : Ct) (b : Bool) (C' : Ct) : Prop := ∀ F H σ, Sat F H σ C → ∀ Q : Bool → Hp → Prop,
  (∀ F' H', Stp F H (Own σ C) F' H' (Own σ C') → Sat F' H' σ C' → Q b H') → wpW X e σ H Q
theorem GW.gt {k : Bool} (h : GW X e C k C1) : GT X e C k C1 := fun F H σ S Q q => wpT_of (PW.pt pw_wp) (h F H σ S Q q)
variable {p p' : Bool} {rest : List Expr}
theorem gw_and1 (h : GT X a C p C1) : GW X (.BoolOp .And [a] pos) C p C1 := fun F H σ S Q q => wpW_of (pw_and1 pt_wp) (h F H σ S Q q)
theorem gw_or1 (h : GT X a C p C1) : GW X (.BoolOp .Or [a] pos) C p C1 := fun F H σ S Q q => wpW_of (pw_or1 pt_wp) (h F H σ S Q q)
theorem gw_and (ha : GT X a C p C1) (ht : p = true → GW X (.BoolOp .And (b :: rest) pos) C1 p' C2) (hf : p = false → p' = false ∧ C2 = C1) : GW X (.BoolOp .And (a :: b :: rest) pos) C p' C2 := fun F H σ S Q q => by
  refine wpW_of (pw_and pt_wp pw_wp) ?_
  refine ha F H σ S _ fun F1 H1 s1 S1 => ?_
  cases p with
  | true => exact iteT (ht rfl F1 H1 σ S1 Q fun F2 H2 s2 S2 => q F2 H2 (s1.trans s2) S2)
  | false =>
    obtain ⟨rfl, rfl⟩ := hf rfl
    exact iteF (q F1 H1 s1 S1)
theorem gw_or (ha : GT X a C p C1) (hf : p = false → GW X (.BoolOp .Or (b :: rest) pos) C1 p' C2) (ht : p = true → p' = true ∧ C2 = C1) : GW X (.BoolOp .Or (a :: b :: rest) pos) C p' C2 := fun F H σ S Q q => by
  refine wpW_of (pw_or pt_wp pw_wp) ?_
  refine ha F H σ S _ fun F1 H1 s1 S1 => ?_
  cases p with
  | false => exact iteF (hf rfl F1 H1 σ S1 Q fun F2 H2 s2 S2 => q F2 H2 (s1.trans s2) S2)
  | true =>
    obtain ⟨rfl, rfl⟩ := ht rfl
    exact iteT (q F1 H1 s1 S1)
/-- .. as values -/
theorem g_one {op} (h : GE X a C d C1) : GE X (.BoolOp op [a] pos) C d C1 := fun F H σ S Q q => wpE_of (pe_one pe_wp) (h F H σ S Q q)
theorem g_and (ha : GE X a C (.bool p) C1) (ht : p = true → GE X (.BoolOp .And (b :: rest) pos) C1 (.bool p') C2) (hf : p = false → p' = false ∧ C2 = C1) : GE X (.BoolOp .And (a :: b :: rest) pos) C (.bool p') C2 := fun F H σ S Q q => by
  refine wpE_of (pe_and pe_wp pe_wp) ?_
  refine ha F H σ S _ fun v F1 H1 s1 S1 r1 => ?_
  cases r1
  refine ⟨p, rfl, ?_⟩
  cases p with
  | true => exact iteT (ht rfl F1 H1 σ S1 Q fun v F2 H2 s2 S2 => q v F2 H2 (s1.trans s2) S2)
  | false =>
    obtain ⟨rfl, rfl⟩ := hf rfl
    exact iteF (q _ F1 H1 s1 S1 (.bl _))
theorem g_or (ha : GE X a C (.bool p) C1) (hf : p = false → GE X (.BoolOp .Or (b :: rest) pos) C1 (.bool p') C2) (ht : p = true → p' = true ∧ C2 = C1) : GE X (.BoolOp .Or (a :: b :: rest) pos) C (.bool p') C2 := fun F H σ S Q q => by
  refine wpE_of (pe_or pe_wp pe_wp) ?_
  refine ha F H σ S _ fun v F1 H1 s1 S1 r1 => ?_
  cases r1
  refine ⟨p, rfl, ?_⟩
  cases p with
  | false => exact iteF (hf rfl F1 H1 σ S1 Q fun v F2 H2 s2 S2 => q v F2 H2 (s1.trans s2) S2)
  | true =>
    obtain ⟨rfl, rfl⟩ := ht rfl
    exact iteT (q _ F1 H1 s1 S1 (.bl _))
theorem g_not (h : GE X a C (.bool p) C1) : GE X (.UnaryOp .Not a pos) C (.bool (!p)) C1 := fun F H σ S Q q => by
  refine wpE_of (pe_not pe_wp) ?_
  refine h F H σ S _ fun v F1 H1 s1 S1 r1 => ?_
  cases r1
  exact ⟨p, rfl, q _ F1 H1 s1 S1 (.bl _)⟩
theorem g_if (hc : GT X c C p C1) (ht : p = true → GE X a C1 d C2) (hf : p = false → GE X b C1 d C2) : GE X (.IfExp c a b pos) C d C2 := fun F H σ S Q q => by
  refine wpE_of (pe_ifExp pt_wp pe_wp pe_wp) ?_
  refine hc F H σ S _ fun F1 H1 s1 S1 => ?_
  cases p with
  | true => exact iteT (ht rfl F1 H1 σ S1 Q fun v F2 H2 s2 S2 => q v F2 H2 (s1.trans s2) S2)
  | false => exact iteF (hf rfl F1 H1 σ S1 Q fun v F2 H2 s2 S2 => q v F2 H2 (s1.trans s2) S2)
/-- a < b < c -/
theorem gt_chain {op op' : CmpOp} {r r' : R2} {k k' : Bool} (ho : OpR X (compareOp op) r) (ho' : OpR X (compareOp op') r') (ha : GE X a C d1 C1) (hb : GE X b C1 d2 C2) (h1 : V2 r d1 d2 (.bool k)) (hc : k = true → GE X c C2 d3 C2) (h2 : k = true → V2 r' d2 d3 (.bool k'))
    (hf : k = false → k' = false) (hm : lastMarks [op, op'] [b, c] = false := by rfl) : GT X (.Compare a [op, op'] [b, c] pos) C k' C2 := fun F H σ S Q q => by
  refine wpT_of (pt_chain ho ho' pe_wp pe_wp pe_wp hm) ?_
  refine ha F H σ S _ fun v F1 H1 s1 S1 r1 => hb F1 H1 σ S1 _ fun u F2 H2 s2 S2 r2 => h1 F2 H2 v u S2.ex (.inl (r1.mono s2.e)) (.inl r2) _ fun v' F3 H3 x r3 => ?_
  cases r3
  refine ⟨k, rfl, ?_⟩
  cases k with
  | true =>
    refine iteT (hc rfl F3 H3 σ (S2.xs x) _ fun z F4 H4 s4 S4 r4 => h2 rfl F4 H4 u z S4.ex (.inl ((r2.mono x.f).mono s4.e)) (.inl r4) _ fun v' F5 H5 x5 r5 => ?_)
    cases r5
    exact ⟨_, rfl, q _ _ ((((s1.trans s2).trans x.stp).trans s4).trans x5.stp) (S4.xs x5)⟩
  | false =>
    refine iteF ⟨false, rfl, ?_⟩
    rw [hf rfl] at q
    exact q _ _ ((s1.trans s2).trans x.stp) (S2.xs x)
theorem g_chain {op op' : CmpOp} {r r' : R2} {k k' : Bool} (ho : OpR X (compareOp op) r) (ho' : OpR X (compareOp op') r') (ha : GE X a C d1 C1) (hb : GE X b C1 d2 C2) (h1 : V2 r d1 d2 (.bool k)) (hc : k = true → GE X c C2 d3 C2) (h2 : k = true → V2 r' d2 d3 (.bool k'))
    (hf : k = false → k' = false) (hm : lastMarks [op, op'] [b, c] = false := by rfl) : GE X (.Compare a [op, op'] [b, c] pos) C (.bool k') C2 := fun F H σ S Q q => by
  refine wpE_of (pe_chain ho ho' pe_wp pe_wp pe_wp hm) ?_
  refine ha F H σ S _ fun v F1 H1 s1 S1 r1 => hb F1 H1 σ S1 _ fun u F2 H2 s2 S2 r2 => h1 F2 H2 v u S2.ex (.inl (r1.mono s2.e)) (.inl r2) _ fun v' F3 H3 x r3 => ?_
  cases r3
  refine ⟨k, rfl, ?_⟩
  cases k with
  | true =>
    exact iteT (hc rfl F3 H3 σ (S2.xs x) _ fun z F4 H4 s4 S4 r4 => h2 rfl F4 H4 u z S4.ex (.inl ((r2.mono x.f).mono s4.e)) (.inl r4) _ fun v' F5 H5 x5 r5 => q _ _ _ ((((s1.trans s2).trans x.stp).trans s4).trans x5.stp) (S4.xs x5) r5)
  | false =>
    refine iteF ?_
    rw [hf rfl] at q
    exact q _ _ _ ((s1.trans s2).trans x.stp) (S2.xs x) (.bl _)
end
end G
/-! G3: calls of built-ins, subscripts, slices. -/
namespace G
open PySem L2
section
variable {X : Cx} {a b c e : Expr} {C C1 C2 C3 C' : Ct} {d d1 d2 d3 : D} {ds : List D} {pos p : Pos} {i j : Int} {x : Str}
/-! ### calls of built-ins with one or two arguments -/
/-- by values: gives a value that stands for d -/
def VC1 (r : List V → Hp → VK → Prop) (d1 d : D) : Prop := ∀ F H v, Ext F H → Rd1 F H v d1 → ∀ Q : VK, (∀ v' F' H', XS F H F' H' → R F' v' d → Q v' H') → r [v] H Q
def VC1L (r : List V → Hp → VK → Prop) (d1 : D) (ds : List D) : Prop := ∀ F H v, Ext F H → Rd1 F H v d1 → ∀ Q : VK, (∀ p vs, H p = none → RA F vs ds → Q (.ref p) (upd H p (.lst vs))) → r [v] H Q
def VC2 (r : List V → Hp → VK → Prop) (d1 d2 d : D) : Prop := ∀ F H v u, Ext F H → Rd1 F H v d1 → Rd1 F H u d2 → ∀ Q : VK, (∀ v' F' H', XS F H F' H' → R F' v' d → Q v' H') → r [v, u] H Q
theorem g_b1 {r : List V → Hp → VK → Prop} {id : String} (hc : CallR X (.builtin id) r) (hv : bootBuiltins x = some (.builtin id)) (hm : X.mg x = none) (ha : GV X a C d1 C1) (hr : VC1 r d1 d) (hg : Gl X x := by rfl) (hn : x ≠ "__name__" := by decide) (hdb : (x == ("__debug__" : Str)) = false := by decide)
    (he : starEach [a] X.env = (false, eval a X.env) :: starEach [] X.env := by rfl) (hpl : (backTo pos (starEach [] X.env)).any (·.1) = false := by rfl) : GE X (.Call (.Name x p) [a] [] pos) C d C1 := fun F H σ S Q q => by
  refine wpE_of (pe_callB hc hg hm hv (pa_cons pe_wp pa_nil he) hn hdb he hpl) ?_
  exact ha F H σ S _ fun v F1 H1 s1 S1 r1 => hr F1 H1 v S1.ex (r1.rd S1) Q fun v' F' H' x r' => q v' F' H' (s1.trans x.stp) (S1.xs x) r'
theorem g_b1L {r : List V → Hp → VK → Prop} {id : String} (hc : CallR X (.builtin id) r) (hv : bootBuiltins x = some (.builtin id)) (hm : X.mg x = none) (ha : GV X a C d1 C1) (hr : VC1L r d1 ds) (hg : Gl X x := by rfl) (hn : x ≠ "__name__" := by decide) (hdb : (x == ("__debug__" : Str)) = false := by decide)
    (he : starEach [a] X.env = (false, eval a X.env) :: starEach [] X.env := by rfl) (hpl : (backTo pos (starEach [] X.env)).any (·.1) = false := by rfl) : GL X (.Call (.Name x p) [a] [] pos) C ds C1 := fun F H σ S Q q => by
  refine wpE_of (pe_callB hc hg hm hv (pa_cons pe_wp pa_nil he) hn hdb he hpl) ?_
  exact ha F H σ S _ fun v F1 H1 s1 S1 r1 => hr F1 H1 v S1.ex (r1.rd S1) Q fun p vs hp r' => GL.of q s1 S1 hp r'
theorem g_t1 {r : List V → Hp → VK → Prop} {id : String} (hc : CallR X (.type id) r) (hv : bootBuiltins x = some (.type id)) (hm : X.mg x = none) (ha : GV X a C d1 C1) (hr : VC1 r d1 d) (hg : Gl X x := by rfl) (hn : x ≠ "__name__" := by decide) (hdb : (x == ("__debug__" : Str)) = false := by decide)
    (he : starEach [a] X.env = (false, eval a X.env) :: starEach [] X.env := by rfl) (hpl : (backTo pos (starEach [] X.env)).any (·.1) = false := by rfl) : GE X (.Call (.Name x p) [a] [] pos) C d C1 := fun F H σ S Q q => by
  refine wpE_of (pe_callTy hc hg hm hv (pa_cons pe_wp pa_nil he) hn hdb he hpl) ?_
  exact ha F H σ S _ fun v F1 H1 s1 S1 r1 => hr F1 H1 v S1.ex (r1.rd S1) Q fun v' F' H' x r' => q v' F' H' (s1.trans x.stp) (S1.xs x) r'
theorem g_t1L {r : List V → Hp → VK → Prop} {id : String} (hc : CallR X (.type id) r) (hv : bootBuiltins x = some (.type id)) (hm : X.mg x = none) (ha : GV X a C d1 C1) (hr : VC1L r d1 ds) (hg : Gl X x := by rfl) (hn : x ≠ "__name__" := by decide) (hdb : (x == ("__debug__" : Str)) = false := by decide)
    (he : starEach [a] X.env = (false, eval a X.env) :: starEach [] X.env := by rfl) (hpl : (backTo pos (starEach [] X.env)).any (·.1) = false := by rfl) : GL X (.Call (.Name x p) [a] [] pos) C ds C1 := fun F H σ S Q q => by
  refine wpE_of (pe_callTy hc hg hm hv (pa_cons pe_wp pa_nil he) hn hdb he hpl) ?_
  exact ha F H σ S _ fun v F1 H1 s1 S1 r1 => hr F1 H1 v S1.ex (r1.rd S1) Q fun p vs hp r' => GL.of q s1 S1 hp r'
theorem g_b2 {r : List V → Hp → VK → Prop} {id : String} (hc : CallR X (.builtin id) r) (hv : bootBuiltins x = some (.builtin id)) (hm : X.mg x = none) (ha : GV X a C d1 C1) (hb : GV X b C1 d2 C1) (hr : VC2 r d1 d2 d) (hg : Gl X x := by rfl) (hn : x ≠ "__name__" := by decide) (hdb : (x == ("__debug__" : Str)) = false := by decide)
    (he : starEach [a, b] X.env = (false, eval a X.env) :: starEach [b] X.env := by rfl) (he2 : starEach [b] X.env = (false, eval b X.env) :: starEach [] X.env := by rfl) (hpl : (backTo pos (starEach [b] X.env)).any (·.1) = false := by rfl) : GE X (.Call (.Name x p) [a, b] [] pos) C d C1 := fun F H σ S Q q => by
  refine wpE_of (pe_callB hc hg hm hv (pa_cons pe_wp (pa_cons pe_wp pa_nil he2) he) hn hdb he hpl) ?_
  exact ha F H σ S _ fun v F1 H1 s1 S1 r1 => hb F1 H1 σ S1 _ fun u F2 H2 s2 S2 r2 => hr F2 H2 v u S2.ex ((r1.same s2).rd S2) (r2.rd S2) Q fun v' F' H' x r' => q v' F' H' ((s1.trans s2).trans x.stp) (S2.xs x) r'
/-- len of a list, a tuple -/
theorem g_len (hm : X.mg "len" = none) (hs : sq d1 = some ds) (ha : GV X a C d1 C1) (hg : Gl X "len" := by rfl) (he : starEach [a] X.env = (false, eval a X.env) :: starEach [] X.env := by rfl) : GE X (.Call (.Name "len" p) [a] [] pos) C (.int ds.length) C1 :=
  g_b1 (r := fun xs H Q => ∃ x n, xs = [x] ∧ LenV X.K x H n ∧ Q (.int n) H) call_len boot_len hm ha (fun F H v e r Q q => by
    obtain ⟨a, vs, rfl, h, r'⟩ := r.seq (K := X.K) e hs
    refine ⟨_, vs.length, rfl, ?_, ?_⟩
    · rcases h with h | h
      · exact .inl ⟨vs, h, rfl⟩
      · exact .inr ⟨vs, h, rfl⟩
    · rw [r'.length]
      exact q _ F H (.refl e) (.int _)) hg (by decide) (by decide) he
theorem g_lenS {z : Str} (hm : X.mg "len" = none) (hz : z.length ≤ sizeLine) (ha : GE X a C (.str z) C1) (hg : Gl X "len" := by rfl) (he : starEach [a] X.env = (false, eval a X.env) :: starEach [] X.env := by rfl) : GE X (.Call (.Name "len" p) [a] [] pos) C (.int z.length) C1 :=
  g_b1 (r := fun xs H Q => ∃ x n, xs = [x] ∧ LenV X.K x H n ∧ Q (.int n) H) call_len boot_len hm ha.gv (fun F H v e r Q q => by
    cases r.str
    exact ⟨_, z.length, rfl, ⟨hz, rfl⟩, q _ F H (.refl e) (.int _)⟩) hg (by decide) (by decide) he
theorem g_abs (hm : X.mg "abs" = none) (ha : GE X a C (.int i) C1) (hg : Gl X "abs" := by rfl) (he : starEach [a] X.env = (false, eval a X.env) :: starEach [] X.env := by rfl) : GE X (.Call (.Name "abs" p) [a] [] pos) C (.int (if i < 0 then -i else i)) C1 :=
  g_b1 (r := fun xs H Q => ∃ i, xs = [.int i] ∧ Q (.int (if i < 0 then -i else i)) H) call_abs (by decide +kernel) hm ha.gv (fun F H v e r Q q => by
    cases r.int
    exact ⟨_, rfl, q _ F H (.refl e) (.int _)⟩) hg (by decide) (by decide) he
theorem g_intI (hm : X.mg "int" = none) (ha : GE X a C (.int i) C1) (hg : Gl X "int" := by rfl) (he : starEach [a] X.env = (false, eval a X.env) :: starEach [] X.env := by rfl) : GE X (.Call (.Name "int" p) [a] [] pos) C (.int i) C1 :=
  g_t1 (r := fun xs H Q => (∃ i, xs = [.int i] ∧ Q (.int i) H) ∨ ∃ k, xs = [.bl k] ∧ Q (.int (if k then 1 else 0)) H) call_int1 (by decide +kernel) hm ha.gv (fun F H v e r Q q => by
    cases r.int
    exact .inl ⟨_, rfl, q _ F H (.refl e) (.int _)⟩) hg (by decide) (by decide) he
theorem g_intB {k : Bool} (hm : X.mg "int" = none) (ha : GE X a C (.bool k) C1) (hg : Gl X "int" := by rfl) (he : starEach [a] X.env = (false, eval a X.env) :: starEach [] X.env := by rfl) : GE X (.Call (.Name "int" p) [a] [] pos) C (.int (if k then 1 else 0)) C1 :=
  g_t1 (r := fun xs H Q => (∃ i, xs = [.int i] ∧ Q (.int i) H) ∨ ∃ k, xs = [.bl k] ∧ Q (.int (if k then 1 else 0)) H) call_int1 (by decide +kernel) hm ha.gv (fun F H v e r Q q => by
    cases r.bool
    exact .inr ⟨_, rfl, q _ F H (.refl e) (.int _)⟩) hg (by decide) (by decide) he
theorem g_boolI (hm : X.mg "bool" = none) (ha : GE X a C (.int i) C1) (hg : Gl X "bool" := by rfl) (he : starEach [a] X.env = (false, eval a X.env) :: starEach [] X.env := by rfl) : GE X (.Call (.Name "bool" p) [a] [] pos) C (.bool (i != 0)) C1 :=
  g_t1 (r := fun xs H Q => (∃ i, xs = [.int i] ∧ Q (.bl (i != 0)) H) ∨ ∃ k, xs = [.bl k] ∧ Q (.bl k) H) call_bool1 (by decide +kernel) hm ha.gv (fun F H v e r Q q => by
    cases r.int
    exact .inl ⟨_, rfl, q _ F H (.refl e) (.bl _)⟩) hg (by decide) (by decide) he
theorem g_strI (hm : X.mg "str" = none) (hl : i.natAbs.log2 < 1920) (ha : GE X a C (.int i) C1) (hg : Gl X "str" := by rfl) (he : starEach [a] X.env = (false, eval a X.env) :: starEach [] X.env := by rfl) : GE X (.Call (.Name "str" p) [a] [] pos) C (.str (toString i)) C1 :=
  g_t1 (r := fun xs H Q => ∃ i, xs = [.int i] ∧ i.natAbs.log2 < 1920 ∧ Q (.str (toString i)) H) call_str_int (by decide +kernel) hm ha.gv (fun F H v e r Q q => by
    cases r.int
    exact ⟨_, rfl, hl, q _ F H (.refl e) (.str _)⟩) hg (by decide) (by decide) he
theorem g_max2 (hc : X.calm = true) (hm : X.mg "max" = none) (ha : GE X a C (.int i) C1) (hb : GE X b C1 (.int j) C1) (hg : Gl X "max" := by rfl) (he : starEach [a, b] X.env = (false, eval a X.env) :: starEach [b] X.env := by rfl) (he2 : starEach [b] X.env = (false, eval b X.env) :: starEach [] X.env := by rfl)
    (hpl : (backTo pos (starEach [b] X.env)).any (·.1) = false := by rfl) : GE X (.Call (.Name "max" p) [a, b] [] pos) C (.int (if j > i then j else i)) C1 :=
  g_b2 (r := fun xs H Q => ∃ i j, xs = [.int i, .int j] ∧ Q (.int (if j > i then j else i)) H) (call_max2 hc) (by decide +kernel) hm ha.gv hb.gv (fun F H v u e r1 r2 Q q => by
    cases r1.int; cases r2.int
    exact ⟨_, _, rfl, q _ F H (.refl e) (.int _)⟩) hg (by decide) (by decide) he he2 hpl
theorem g_min2 (hc : X.calm = true) (hm : X.mg "min" = none) (ha : GE X a C (.int i) C1) (hb : GE X b C1 (.int j) C1) (hg : Gl X "min" := by rfl) (he : starEach [a, b] X.env = (false, eval a X.env) :: starEach [b] X.env := by rfl) (he2 : starEach [b] X.env = (false, eval b X.env) :: starEach [] X.env := by rfl)
    (hpl : (backTo pos (starEach [b] X.env)).any (·.1) = false := by rfl) : GE X (.Call (.Name "min" p) [a, b] [] pos) C (.int (if j < i then j else i)) C1 :=
  g_b2 (r := fun xs H Q => ∃ i j, xs = [.int i, .int j] ∧ Q (.int (if j < i then j else i)) H) (call_min2 hc) (by decide +kernel) hm ha.gv hb.gv (fun F H v u e r1 r2 Q q => by
    cases r1.int; cases r2.int
    exact ⟨_, _, rfl, q _ F H (.refl e) (.int _)⟩) hg (by decide) (by decide) he he2 hpl
theorem g_sum {is : List Int} (hc : X.calm = true) (hm : X.mg "sum" = none) (ha : GV X a C (.list (is.map .int)) C1) (hg : Gl X "sum" := by rfl) (he : starEach [a] X.env = (false, eval a X.env) :: starEach [] X.env := by rfl) : GE X (.Call (.Name "sum" p) [a] [] pos) C (.int is.sum) C1 :=
  g_b1 (r := rSum X.K) (cr_sum hc) (by decide +kernel) hm ha (fun F H v e r Q q => by
    obtain ⟨a, vs, rfl, h, r'⟩ := r.list e
    cases r'.ints
    exact ⟨a, is, rfl, .inl h, q _ F H (.refl e) (.int _)⟩) hg (by decide) (by decide) he
theorem g_any {bs : List Bool} (hc : X.calm = true) (hm : X.mg "any" = none) (ha : GV X a C (.list (bs.map .bool)) C1) (hg : Gl X "any" := by rfl) (he : starEach [a] X.env = (false, eval a X.env) :: starEach [] X.env := by rfl) : GE X (.Call (.Name "any" p) [a] [] pos) C (.bool (bs.any id)) C1 :=
  g_b1 (r := rAny X.K) (cr_any hc) (by decide +kernel) hm ha (fun F H v e r Q q => by
    obtain ⟨a, vs, rfl, h, r'⟩ := r.list e
    cases r'.bools
    exact ⟨a, bs, rfl, .inl h, q _ F H (.refl e) (.bl _)⟩) hg (by decide) (by decide) he
theorem g_all {bs : List Bool} (hc : X.calm = true) (hm : X.mg "all" = none) (ha : GV X a C (.list (bs.map .bool)) C1) (hg : Gl X "all" := by rfl) (he : starEach [a] X.env = (false, eval a X.env) :: starEach [] X.env := by rfl) : GE X (.Call (.Name "all" p) [a] [] pos) C (.bool (bs.all id)) C1 :=
  g_b1 (r := rAll X.K) (cr_all hc) (by decide +kernel) hm ha (fun F H v e r Q q => by
    obtain ⟨a, vs, rfl, h, r'⟩ := r.list e
    cases r'.bools
    exact ⟨a, bs, rfl, .inl h, q _ F H (.refl e) (.bl _)⟩) hg (by decide) (by decide) he
/-- the greatest, the least of whole numbers -/
def lmax : List Int → Option Int
  | [] => none
  | x :: xs => some (xs.foldl max x)
def lmin : List Int → Option Int
  | [] => none
  | x :: xs => some (xs.foldl min x)
theorem foldl_max_spec : ∀ (xs : List Int) (x : Int), (xs.foldl max x = x ∨ xs.foldl max x ∈ xs) ∧ x ≤ xs.foldl max x ∧ ∀ y ∈ xs, y ≤ xs.foldl max x
  | [], x => ⟨.inl rfl, Int.le_refl _, fun _ h => nomatch h⟩
  | z :: xs, x => by
    obtain ⟨h1, h2, h3⟩ := foldl_max_spec xs (max x z)
    simp only [List.foldl_cons]
    refine ⟨?_, by omega, fun y hy => ?_⟩
    · rcases h1 with h | h
      · rw [h]
        rcases Int.le_total x z with l | l
        · rw [Int.max_eq_right l]; exact .inr (List.mem_cons_self ..)
        · rw [Int.max_eq_left l]; exact .inl rfl
      · exact .inr (List.mem_cons_of_mem _ h)
    · rcases List.mem_cons.mp hy with rfl | hy
      · omega
      · exact h3 y hy
theorem foldl_min_spec : ∀ (xs : List Int) (x : Int), (xs.foldl min x = x ∨ xs.foldl min x ∈ xs) ∧ xs.foldl min x ≤ x ∧ ∀ y ∈ xs, xs.foldl min x ≤ y
  | [], x => ⟨.inl rfl, Int.le_refl _, fun _ h => nomatch h⟩
  | z :: xs, x => by
    obtain ⟨h1, h2, h3⟩ := foldl_min_spec xs (min x z)
    simp only [List.foldl_cons]
    refine ⟨?_, by omega, fun y hy => ?_⟩
    · rcases h1 with h | h
      · rw [h]
        rcases Int.le_total x z with l | l
        · rw [Int.min_eq_left l]; exact .inl rfl
        · rw [Int.min_eq_right l]; exact .inr (List.mem_cons_self ..)
      · exact .inr (List.mem_cons_of_mem _ h)
    · rcases List.mem_cons.mp hy with rfl | hy
      · omega
      · exact h3 y hy
theorem g_maxL {is : List Int} (hl : lmax is = some i) (hc : X.calm = true) (hm : X.mg "max" = none) (ha : GV X a C (.list (is.map .int)) C1) (hg : Gl X "max" := by rfl) (he : starEach [a] X.env = (false, eval a X.env) :: starEach [] X.env := by rfl) : GE X (.Call (.Name "max" p) [a] [] pos) C (.int i) C1 :=
  g_b1 (r := rMax X.K) (cr_max hc) (by decide +kernel) hm ha (fun F H v e r Q q => by
    obtain ⟨a, vs, rfl, h, r'⟩ := r.list e
    cases r'.ints
    cases is with
    | nil => cases hl
    | cons x xs =>
      refine ⟨a, x :: xs, rfl, .inl h, by simp, fun m h1 h2 => ?_⟩
      have e1 : xs.foldl max x = i := Option.some.inj hl
      obtain ⟨q1, q2, q3⟩ := foldl_max_spec xs x
      have mem : xs.foldl max x ∈ x :: xs := by
        rcases q1 with q1 | q1
        · rw [q1]; exact List.mem_cons_self ..
        · exact List.mem_cons_of_mem _ q1
      have : m = i := by
        rw [← e1]
        refine Int.le_antisymm ?_ (h2 _ mem)
        rcases List.mem_cons.mp h1 with rfl | h1
        · exact q2
        · exact q3 _ h1
      rw [this]
      exact q _ F H (.refl e) (.int _)) hg (by decide) (by decide) he
theorem g_minL {is : List Int} (hl : lmin is = some i) (hc : X.calm = true) (hm : X.mg "min" = none) (ha : GV X a C (.list (is.map .int)) C1) (hg : Gl X "min" := by rfl) (he : starEach [a] X.env = (false, eval a X.env) :: starEach [] X.env := by rfl) : GE X (.Call (.Name "min" p) [a] [] pos) C (.int i) C1 :=
  g_b1 (r := rMin X.K) (cr_min hc) (by decide +kernel) hm ha (fun F H v e r Q q => by
    obtain ⟨a, vs, rfl, h, r'⟩ := r.list e
    cases r'.ints
    cases is with
    | nil => cases hl
    | cons x xs =>
      refine ⟨a, x :: xs, rfl, .inl h, by simp, fun m h1 h2 => ?_⟩
      have e1 : xs.foldl min x = i := Option.some.inj hl
      obtain ⟨q1, q2, q3⟩ := foldl_min_spec xs x
      have mem : xs.foldl min x ∈ x :: xs := by
        rcases q1 with q1 | q1
        · rw [q1]; exact List.mem_cons_self ..
        · exact List.mem_cons_of_mem _ q1
      have : m = i := by
        rw [← e1]
        refine Int.le_antisymm (h2 _ mem) ?_
        rcases List.mem_cons.mp h1 with rfl | h1
        · exact q2
        · exact q3 _ h1
      rw [this]
      exact q _ F H (.refl e) (.int _)) hg (by decide) (by decide) he
/-- tuple(..), list(..) -/
theorem g_tuple (hs : sq d1 = some ds) (hm : X.mg "tuple" = none) (ha : GV X a C d1 C1) (hg : Gl X "tuple" := by rfl) (he : starEach [a] X.env = (false, eval a X.env) :: starEach [] X.env := by rfl) : GE X (.Call (.Name "tuple" p) [a] [] pos) C (.tuple ds) C1 :=
  g_t1 (r := fun xs H Q => ∃ p ys, xs = [.ref p] ∧ ((SqL X.K H p ys ∧ ∀ l, H l = none → Q (.ref l) (upd H l (.tup ys))) ∨ (SqT X.K H p ys ∧ Q (.ref p) H))) call_tuple_of (by decide +kernel) hm ha (fun F H v e r Q q => by
    cases d1 with
    | list ds' =>
      cases hs
      obtain ⟨a, vs, rfl, h, r'⟩ := r.list e
      refine ⟨a, vs, rfl, .inl ⟨.inl h, fun l hl => ?_⟩⟩
      have x : XS F H (upd F l (.tup vs)) (upd H l (.tup vs)) := XS.new e hl
      exact q _ _ _ x (.tup upd_same (r'.mono x.f))
    | tuple ds' =>
      cases hs
      obtain ⟨a, vs, rfl, f, h, r'⟩ := r.tuple e
      exact ⟨a, vs, rfl, .inr ⟨.of h, q _ F H (.refl e) (.tup f r')⟩⟩
    | _ => cases hs) hg (by decide) (by decide) he
theorem g_list (hs : sq d1 = some ds) (hm : X.mg "list" = none) (ha : GV X a C d1 C1) (hg : Gl X "list" := by rfl) (he : starEach [a] X.env = (false, eval a X.env) :: starEach [] X.env := by rfl) : GL X (.Call (.Name "list" p) [a] [] pos) C ds C1 :=
  g_t1L (r := fun xs H Q => ∃ p ys, xs = [.ref p] ∧ (SqL X.K H p ys ∨ SqT X.K H p ys) ∧ ∀ l, H l = none → Q (.ref l) (upd H l (.lst ys))) call_list_of (by decide +kernel) hm ha (fun F H v e r Q q => by
    obtain ⟨a, vs, rfl, h, r'⟩ := r.seq (K := X.K) e hs
    exact ⟨a, vs, rfl, h, fun l hl => q l vs hl r'⟩) hg (by decide) (by decide) he

/-! ### isinstance -/
def dty : D → String
  | .none => "NoneType" | .bool _ => "bool" | .int _ => "int" | .str _ => "str" | .list _ => "list" | .tuple _ => "tuple" | .dict _ => "dict"
def isA (T : String) (d : D) : Bool := dty d == T || (T == "int" && dty d == "bool")
theorem Rd1.ty {K : PySem.W.Frag} {F H : Hp} (e : Ext F H) {v : V} (r : Rd1 F H v d) : TyX K H v (.type (dty d)) := by
  rcases r with r | ⟨a, vs, ds, rfl, rfl, h1, h2⟩
  · cases r with
    | non => exact .base .non
    | bl b => exact .base (.bl b)
    | int i => exact .base (.int i)
    | str z => exact .base (.str z)
    | lst h _ =>
      rcases e.rd h with h | ⟨o, h⟩
      · exact .base (.lst h)
      · exact .base (.frz h)
    | tup h _ => exact .base (.tup (e _ _ h))
  · exact .base (.lst h1)
theorem g_isi {T : String} {t : Str} {p2 : Pos} (ht : bootBuiltins t = some (.type T)) (hk : ["NoneType", "bool", "int", "str", "list", "tuple", "dict"].all (fun s => kitB s T == some (s == T || (T == "int" && s == "bool"))) = true) (hm : X.mg "isinstance" = none) (hmt : X.mg t = none) (ha : GV X a C d1 C1)
    (hg : Gl X "isinstance" := by rfl) (hgt : Gl X t := by rfl) (hn : t ≠ "__name__" := by decide) (hdb : (t == ("__debug__" : Str)) = false := by decide)
    (he : starEach [a, .Name t p2] X.env = (false, eval a X.env) :: starEach [.Name t p2] X.env := by rfl) (he2 : starEach [.Name t p2] X.env = (false, eval (.Name t p2) X.env) :: starEach [] X.env := by rfl)
    (hpl : (backTo pos (starEach [.Name t p2] X.env)).any (·.1) = false := by rfl) : GE X (.Call (.Name "isinstance" p) [a, .Name t p2] [] pos) C (.bool (isA T d1)) C1 := fun F H σ S Q q => by
  refine wpE_of (pe_callB call_isi hg hm (by decide +kernel) (pa_cons pe_wp (pa_cons (pe_bltn hgt hmt ht (v := .ty T) rfl hn hdb) pa_nil he2) he) (by decide) (by decide) he hpl) ?_
  refine ha F H σ S _ fun v F1 H1 s1 S1 r1 => ⟨v, .ty T, _, _, isA T d1, rfl, .ty T, (r1.rd S1).ty S1.ex, kit_ty ?_, q _ F1 H1 s1 S1 (.bl _)⟩
  have := List.all_eq_true.mp hk (dty d1) (by cases d1 <;> simp [dty])
  exact eq_of_beq this

/-! ### subscripts -/
theorem PlainIx.name {x : Str} {p : Pos} : PlainIx (.Name x p) := fun _ _ => rfl
theorem g_ix {ds : List D} (hs : sq d1 = some ds) (hi : idx ds i = some d) (ha : GV X a C d1 C1) (hb : GE X b C1 (.int i) C1) (hp : PlainIx b := by exact fun _ _ => rfl) : GE X (.Subscript a b pos) C d C1 := fun F H σ S Q q => by
  refine wpE_of (pe_ix ix_seq pe_wp pe_wp hp) ?_
  refine ha F H σ S _ fun v F1 H1 s1 S1 r1 => hb F1 H1 σ S1 _ fun u F2 H2 s2 S2 r2 => ?_
  obtain ⟨l, vs, rfl, h, r'⟩ := ((r1.same s2).rd S2).seq (K := X.K) S2.ex hs
  cases r2
  have hlen := r'.length
  unfold idx atI at hi
  obtain ⟨k, hk, hd⟩ := Option.bind_eq_some_iff.mp hi
  obtain ⟨z, hz, rz⟩ := r'.get hd
  have hat : atI vs i = some z := by unfold atI; rw [hlen, hk]; exact hz
  have fin : Q z H2 := q z F2 H2 (s1.trans s2) S2 rz
  rcases h with h | h
  · exact .inl ⟨l, vs, i, z, rfl, rfl, h, hat, fin⟩
  · exact .inr (.inl ⟨l, vs, i, z, rfl, rfl, h, hat, fin⟩)
/-- the index may draw -/
theorem g_ixE {ds : List D} (hs : sq d1 = some ds) (hi : idx ds i = some d) (ha : GE X a C d1 C1) (hb : GE X b C1 (.int i) C2) (hp : PlainIx b := by exact fun _ _ => rfl) : GE X (.Subscript a b pos) C d C2 := fun F H σ S Q q => by
  refine wpE_of (pe_ix ix_seq pe_wp pe_wp hp) ?_
  refine ha F H σ S _ fun v F1 H1 s1 S1 r1 => hb F1 H1 σ S1 _ fun u F2 H2 s2 S2 r2 => ?_
  obtain ⟨l, vs, rfl, h, r'⟩ := (Rd1.seq (K := X.K) S2.ex (.inl (r1.mono s2.e)) hs)
  cases r2
  have hlen := r'.length
  unfold idx atI at hi
  obtain ⟨k, hk, hd⟩ := Option.bind_eq_some_iff.mp hi
  obtain ⟨z, hz, rz⟩ := r'.get hd
  have hat : atI vs i = some z := by unfold atI; rw [hlen, hk]; exact hz
  have fin : Q z H2 := q z F2 H2 (s1.trans s2) S2 rz
  rcases h with h | h
  · exact .inl ⟨l, vs, i, z, rfl, rfl, h, hat, fin⟩
  · exact .inr (.inl ⟨l, vs, i, z, rfl, rfl, h, hat, fin⟩)
/-- .. of a sequence of things that are told by f -/
theorem idx_map {α : Type} {f : α → D} {xs : List α} {y : α} (h : idx xs i = some y) : idx (xs.map f) i = some (f y) := by
  have h' : atI xs i = some y := h
  show atI (xs.map f) i = some (f y)
  rw [ixN_map, h']
  rfl
/-- a part of a slice: none, or a whole number (no slot changes) -/
inductive GO (X : Cx) (C : Ct) : Option Expr → Option Int → Prop
  | none : GO X C none none
  | some {e : Expr} {i : Int} : GE X e C (.int i) C → GO X C (some e) (some i)
def tOo (X : Cx) : Option Expr → TO
  | none => tNoPart
  | some e => tPart (wpE X e)
theorem po_oo {o : Option Expr} : PO X o (tOo X o) := by
  cases o with
  | none => exact po_none
  | some e => exact po_some pe_wp
theorem GO.run {o : Option Expr} {k : Option Int} (h : GO X C o k) {F H : Hp} {σ : L2.St} (S : Sat F H σ C) {Q : Option Int → Hp → Prop} (q : ∀ F' H', Stp F H (Own σ C) F' H' (Own σ C) → Sat F' H' σ C → Q k H') : tOo X o σ H Q := by
  cases h with
  | none => exact q F H .refl S
  | some h =>
    refine h F H σ S _ fun v F1 H1 s1 S1 r1 => ?_
    cases r1
    exact ⟨_, rfl, q F1 H1 s1 S1⟩
theorem RA.cut {F : Hp} {vs : List V} {lo hi : Option Int} (r : RA F vs ds) : RA F (cutV vs lo hi) (cut ds lo hi) := by
  unfold cutV G.cut
  rw [r.length]
  exact (r.drop _).take _
theorem g_slL {lo hi : Option Expr} {kl kh : Option Int} {p2 : Pos} (ha : GV X a C (.list ds) C1) (hl : GO X C1 lo kl) (hh : GO X C1 hi kh) : GL X (.Subscript a (.Slice lo hi none p2) pos) C (cut ds kl kh) C1 := fun F H σ S Q q => by
  refine wpE_of (pe_slice sl_list pe_wp po_oo po_oo) ?_
  refine ha F H σ S _ fun v F1 H1 s1 S1 r1 => hl.run S1 fun F2 H2 s2 S2 => hh.run S2 fun F3 H3 s3 S3 => ?_
  obtain ⟨l, vs, rfl, h, r'⟩ := (((r1.same s2).same s3).rd S3).list S3.ex
  exact ⟨l, vs, rfl, .inl h, fun p hp => GL.of q ((s1.trans s2).trans s3) S3 hp r'.cut⟩
theorem g_slT {lo hi : Option Expr} {kl kh : Option Int} {p2 : Pos} (ha : GE X a C (.tuple ds) C1) (hl : GO X C1 lo kl) (hh : GO X C1 hi kh) : GE X (.Subscript a (.Slice lo hi none p2) pos) C (.tuple (cut ds kl kh)) C1 := fun F H σ S Q q => by
  refine wpE_of (pe_slice sl_tupA pe_wp po_oo po_oo) ?_
  refine ha F H σ S _ fun v F1 H1 s1 S1 r1 => hl.run S1 fun F2 H2 s2 S2 => hh.run S2 fun F3 H3 s3 S3 => ?_
  obtain ⟨l, vs, rfl, f, h, r'⟩ := Rd1.tuple S3.ex (.inl ((r1.mono s2.e).mono s3.e))
  refine ⟨l, vs, rfl, .of h, fun hw => ?_, fun _ p hp => ?_⟩
  · refine q _ F3 H3 ((s1.trans s2).trans s3) S3 (.tup f ?_)
    have e : cut ds kl kh = ds := by
      unfold G.cut
      rw [← r'.length, hw.1, hw.2]
      simp [r'.length]
    rw [e]; exact r'
  · have x : XS F3 H3 (upd F3 p (.tup (cutV vs kl kh))) (upd H3 p (.tup (cutV vs kl kh))) := XS.new S3.ex hp
    exact q _ _ _ (((s1.trans s2).trans s3).trans x.stp) (S3.xs x) (.tup upd_same (r'.cut.mono x.f))
theorem g_revL {k : Nat} {p1 p2 p3 : Pos} (ha : GV X a C (.list ds) C1) : GL X (.Subscript a (.Slice none none (some (.UnaryOp .USub (.Constant (.int 1) k p1) p2)) p3) pos) C ds.reverse C1 := fun F H σ S Q q => by
  refine wpE_of (pe_revL pe_wp) ?_
  refine ha F H σ S _ fun v F1 H1 s1 S1 r1 => ?_
  obtain ⟨l, vs, rfl, h, r'⟩ := (r1.rd S1).list S1.ex
  exact ⟨l, vs, rfl, .inl h, fun p hp => GL.of q s1 S1 hp r'.rev⟩
end
end G
/-! G4: statements. -/
namespace G
open PySem L2
/-- how a block ends: behind it; by a value; by a new list -/
inductive Out where
  | nx (C : Ct) | rt (d : D) (C : Ct) | rn (ds : List D) (C : Ct)
def Fin (F H : Hp) (o : Addr → Prop) (D' : Ends) : Out → Prop
  | .nx C' => ∀ F' H' σ', Stp F H o F' H' (Own σ' C') → Sat F' H' σ' C' → D'.nx σ' H'
  | .rt d C' => ∀ v F' H' σ', Stp F H o F' H' (Own σ' C') → Sat F' H' σ' C' → R F' v d → D'.rt v H'
  | .rn ds C' => ∀ p vs F' H' σ', Stp F H o F' H' (Own σ' C') → Sat F' H' σ' C' → H p = none → H' p = some (.lst vs) → RA F' vs ds → F' p = none → ¬ Own σ' C' p → D'.rt (.ref p) H'
theorem Fin.step {F H F1 H1 : Hp} {o o1 : Addr → Prop} {D' : Ends} {out : Out} (s : Stp F H o F1 H1 o1) (f : Fin F H o D' out) : Fin F1 H1 o1 D' out := by
  cases out with
  | nx C' => exact fun F' H' σ' s' S => f F' H' σ' (s.trans s') S
  | rt d C' => exact fun v F' H' σ' s' S r => f v F' H' σ' (s.trans s') S r
  | rn ds C' => exact fun p vs F' H' σ' s' S h1 h2 h3 h4 h5 => f p vs F' H' σ' (s.trans s') S (s.t p h1) h2 h3 h4 h5
def wpSs (X : Cx) (st : List Stmt) : TS := fun D σ H => ∀ pins s, Inv X pins σ H s → wpAny (model X.prog X.w) X.A (execs st X.env) (SP X pins D) X.xe s
theorem pss_wp {X : Cx} {st : List Stmt} : PSs X st (wpSs X st) := ⟨fun pins s σ H Q I h => h pins s I⟩
theorem wpSs_of {X : Cx} {st : List Stmt} {t : TS} {D : Ends} {σ : L2.St} {H : Hp} (h : PSs X st t) (q : t D σ H) : wpSs X st D σ H := fun pins s I => h.run pins s σ H D I q
def GS (X : Cx) (st : List Stmt) (C : Ct) (P : Out → Prop) : Prop := ∀ F H σ D', Sat F H σ C → (∀ o, P o → Fin F H (Own σ C) D' o) → wpSs X st D' σ H
/-- behind a statement: the rest -/
def Thn (X : Cx) (rest : List Stmt) (P : Out → Prop) : Out → Prop
  | .nx C => GS X rest C P
  | o => P o
section
variable {X : Cx} {a b c e : Expr} {C C1 C2 C3 C' : Ct} {d d1 d2 d3 : D} {ds : List D} {pos p : Pos} {i j : Int} {x y : Str} {P : Out → Prop} {rest : List Stmt}
/-! ### slots -/
theorem Sat.asg {F H : Hp} {σ : L2.St} {i : Nat} {v : V} {s : Sl} (S : Sat F H σ C) (hi : i < C.length) (ok : SlOk F H (some (some v)) s) (fr : s.own = true → ∀ a, v = .ref a → ¬ Own σ (C.set i .any) a) : Sat F H (σ.set i (some v)) (C.set i s) := by
  have hσ : i < σ.length := by rw [← S.len]; exact hi
  have low : ∀ (j : Nat) (t : Sl), (C.set i s)[j]? = some t → (j = i ∧ t = s) ∨ (j ≠ i ∧ C[j]? = some t) := fun j t h => by
    by_cases hj : i = j
    · subst hj
      rw [List.getElem?_set_self hi] at h
      exact .inl ⟨rfl, (Option.some.inj h).symm⟩
    · rw [List.getElem?_set_ne hj] at h
      exact .inr ⟨fun z => hj z.symm, h⟩
  have own' : ∀ (k : Nat) (u : Sl) (a : Addr), k ≠ i → C[k]? = some u → u.own = true → σ[k]? = some (some (V.ref a)) → Own σ (C.set i .any) a := fun k u a hk h1 h2 h3 =>
    ⟨k, u, by rw [List.getElem?_set_ne (Ne.symm hk)]; exact h1, h2, h3⟩
  refine ⟨S.ex, by rw [List.length_set, List.length_set]; exact S.len, fun j t h => ?_, fun j k t u a h1 h2 h3 h4 h5 h6 => ?_, S.tb⟩
  · rcases low j t h with ⟨rfl, rfl⟩ | ⟨hj, h⟩
    · rw [List.getElem?_set_self hσ]; exact ok
    · rw [List.getElem?_set_ne (Ne.symm hj)]; exact S.sl j t h
  · rcases low j t h1 with ⟨rfl, rfl⟩ | ⟨hj, h1⟩
    · rcases low k u h2 with ⟨rfl, rfl⟩ | ⟨hk, h2⟩
      · rfl
      · rw [List.getElem?_set_self hσ] at h5
        rw [List.getElem?_set_ne (Ne.symm hk)] at h6
        exact absurd (own' k u a hk h2 h4 h6) (fr h3 a (Option.some.inj (Option.some.inj h5)))
    · rw [List.getElem?_set_ne (Ne.symm hj)] at h5
      rcases low k u h2 with ⟨ek, eu⟩ | ⟨hk, h2⟩
      · rw [ek, List.getElem?_set_self hσ] at h6
        exact absurd (own' j t a hj h1 h3 h5) (fr (eu ▸ h4) a (Option.some.inj (Option.some.inj h6)))
      · rw [List.getElem?_set_ne (Ne.symm hk)] at h6
        exact S.dis j k t u a h1 h2 h3 h4 h5 h6
theorem Own.asg {σ : L2.St} {i : Nat} {v : V} {s : Sl} {q : Addr} (o : Own (σ.set i (some v)) (C.set i s) q) : Own σ C q ∨ (s.own = true ∧ v = .ref q) := by
  obtain ⟨j, t, h1, h2, h3⟩ := o
  by_cases hj : i = j
  · subst hj
    by_cases hi : i < C.length
    · rw [List.getElem?_set_self hi] at h1
      cases h1
      by_cases hσ : i < σ.length
      · rw [List.getElem?_set_self hσ] at h3
        exact .inr ⟨h2, Option.some.inj (Option.some.inj h3)⟩
      · rw [List.getElem?_eq_none (by rw [List.length_set]; omega)] at h3; cases h3
    · rw [List.getElem?_eq_none (by rw [List.length_set]; omega)] at h1; cases h1
  · rw [List.getElem?_set_ne hj] at h1 h3
    exact .inl ⟨j, t, h1, h2, h3⟩
/-- a slot is given something that stays -/
theorem Stp.sh {F H : Hp} {σ : L2.St} {i : Nat} {v : V} {s : Sl} (hs : s.own = false) : Stp F H (Own σ C) F H (Own (σ.set i (some v)) (C.set i s)) :=
  ⟨Ext.refl _, fun a u h n => ⟨fun _ => h, (fun o => by
    rcases Own.asg o with o | ⟨o, _⟩
    · exact n o
    · rw [hs] at o; cases o), id⟩, fun _ h => h, id⟩

/-! ### blocks -/
theorem gs_nil (h : P (.nx C)) : GS X [] C P := fun F H σ D' S q => wpSs_of pss_nil (q _ h F H σ .refl S)
theorem gs_ret (h : GE X e C d C1) (hp : P (.rt d C1)) : GS X [.Return (some e) pos] C P := fun F H σ D' S q => by
  refine wpSs_of (pss_one (ps_ret pe_wp)) ?_
  exact h F H σ S _ fun v F1 H1 s1 S1 r1 => q _ hp v F1 H1 σ s1 S1 r1
theorem gs_retL (h : GL X e C ds C1) (hp : P (.rn ds C1)) : GS X [.Return (some e) pos] C P := fun F H σ D' S q => by
  refine wpSs_of (pss_one (ps_ret pe_wp)) ?_
  exact h F H σ S _ fun p vs F1 H1 s1 S1 h1 h2 h3 h4 h5 => q _ hp p vs F1 H1 σ s1 S1 h1 h2 h3 h4 h5
theorem gs_set (i : Nat) {p2 : Pos} (hN : X.N.Nodup) (h : GE X e C d C1) (hr : GS X rest (C1.set i (.sh d)) P) (hl : i < C1.length := by exact Nat.le_of_ble_eq_true rfl) (hi : X.N[i]? = some x := by rfl) (hx : Loc X.env.scope x := by first | exact .inl rfl | exact .inr rfl)
    (hs : swapsWith e (some (.Name x p2)) pos.line X.env = pure false := by rfl) (hf : X.fn x = true ∨ X.env.scope.names.lookup x = some .local := by first | exact .inl rfl | exact .inr rfl) : GS X (.Assign [.Name x p2] e pos :: rest) C P := fun F H σ D' S q => by
  refine wpSs_of (pss_cons (ps_set hN hi hx pe_wp hs hf) pss_wp) ?_
  refine h F H σ S _ fun v F1 H1 s1 S1 r1 => ?_
  have s2 := s1.trans (Stp.sh (C := C1) (σ := σ) (i := i) (v := v) (s := .sh d) rfl)
  exact hr F1 H1 _ D' (S1.asg hl ⟨v, rfl, r1⟩ fun z => nomatch z) fun o ho => (q o ho).step s2
theorem Stp.ol {F H F1 H1 : Hp} {σ : L2.St} {i : Nat} {p : Addr} {s : Sl} (s1 : Stp F H (Own σ C) F1 H1 (Own σ C1)) (hp : H p = none) : Stp F H (Own σ C) F1 H1 (Own (σ.set i (some (.ref p))) (C1.set i s)) :=
  ⟨s1.e, (fun a u h n => by
    obtain ⟨h1, h2, h3⟩ := s1.k a u h n
    refine ⟨h1, fun o => ?_, h3⟩
    rcases Own.asg o with o | ⟨_, e⟩
    · exact h2 o
    · cases e; rw [hp] at h; cases h), s1.t, s1.tb⟩
theorem own_any {σ : L2.St} {i : Nat} {q : Addr} (h : ¬ Own σ C q) : ¬ Own σ (C.set i .any) q := fun o => h (o.set_sh rfl)
theorem gs_setL (i : Nat) {p2 : Pos} (hN : X.N.Nodup) (h : GL X e C ds C1) (hr : GS X rest (C1.set i (.ol ds)) P) (hl : i < C1.length := by exact Nat.le_of_ble_eq_true rfl) (hi : X.N[i]? = some x := by rfl) (hx : Loc X.env.scope x := by first | exact .inl rfl | exact .inr rfl)
    (hs : swapsWith e (some (.Name x p2)) pos.line X.env = pure false := by rfl) (hf : X.fn x = true ∨ X.env.scope.names.lookup x = some .local := by first | exact .inl rfl | exact .inr rfl) : GS X (.Assign [.Name x p2] e pos :: rest) C P := fun F H σ D' S q => by
  refine wpSs_of (pss_cons (ps_set hN hi hx pe_wp hs hf) pss_wp) ?_
  refine h F H σ S _ fun p vs F1 H1 s1 S1 h1 h2 h3 h4 h5 => ?_
  exact hr F1 H1 _ D' (S1.asg hl ⟨p, vs, rfl, h2, h3, h4⟩ fun _ a e => by cases e; exact own_any h5) fun o ho => (q o ho).step (s1.ol h1)
theorem gs_expr (h : GE X e C d C1) (hr : GS X rest C1 P) (hs : swapsWith e none pos.line X.env = pure false := by rfl) : GS X (.Expr e pos :: rest) C P := fun F H σ D' S q => by
  refine wpSs_of (pss_cons (ps_expr pe_wp hs) pss_wp) ?_
  exact h F H σ S _ fun v F1 H1 s1 S1 r1 => hr F1 H1 σ D' S1 fun o ho => (q o ho).step s1
theorem gs_if {A B : List Stmt} {k : Bool} (hc : GT X c C k C1) (ht : k = true → GS X A C1 (Thn X rest P)) (hf : k = false → GS X B C1 (Thn X rest P)) : GS X (.If c A B pos :: rest) C P := fun F H σ D' S q => by
  refine wpSs_of (pss_cons (ps_if pt_wp pss_wp pss_wp) pss_wp) ?_
  refine hc F H σ S _ fun F1 H1 s1 S1 => ?_
  have key : ∀ o, Thn X rest P o → Fin F1 H1 (Own σ C1) { D' with nx := wpSs X rest D' } o := fun o ho => by
    cases o with
    | nx C2 => exact fun F2 H2 σ2 s2 S2 => ho F2 H2 σ2 D' S2 fun o ho => (q o ho).step (s1.trans s2)
    | rt d C2 => exact (q _ ho).step s1
    | rn ds C2 => exact (q _ ho).step s1
  cases k with
  | true => exact iteT (ht rfl F1 H1 σ _ S1 key)
  | false => exact iteF (hf rfl F1 H1 σ _ S1 key)
/-- a block, then the rest -/
theorem GS.imp {st : List Stmt} {P P' : Out → Prop} (h : GS X st C P) (hp : ∀ o, P o → P' o) : GS X st C P' := fun F H σ D' S q => h F H σ D' S fun o ho => q o (hp o ho)
/-- slots forgotten -/
def Sl.le : Sl → Sl → Prop
  | .any, _ => True
  | s, t => s = t
def Cle (C' C : Ct) : Prop := C'.length = C.length ∧ ∀ (i : Nat) (s t : Sl), C'[i]? = some s → C[i]? = some t → s.le t
theorem Sat.le {F H : Hp} {σ : L2.St} (S : Sat F H σ C) (h : Cle C' C) : Sat F H σ C' := by
  have key : ∀ (i : Nat) (s : Sl), C'[i]? = some s → s = .any ∨ C[i]? = some s := fun i s e => by
    have hl : i < C.length := by rw [← h.1]; exact (List.getElem?_eq_some_iff.mp e).1
    have q := h.2 i s C[i] e (List.getElem?_eq_getElem hl)
    cases s with
    | any => exact .inl rfl
    | _ => exact .inr (by rw [List.getElem?_eq_getElem hl]; exact congrArg some (Eq.symm q))
  refine ⟨S.ex, h.1.trans S.len, fun i s e => ?_, fun i j s t a h1 h2 h3 h4 h5 h6 => ?_, S.tb⟩
  · rcases key i s e with rfl | e
    · trivial
    · exact S.sl i s e
  · rcases key i s h1 with rfl | h1
    · cases h3
    · rcases key j t h2 with rfl | h2
      · cases h4
      · exact S.dis i j s t a h1 h2 h3 h4 h5 h6
theorem Own.le {σ : L2.St} {q : Addr} (h : Cle C' C) (o : Own σ C' q) : Own σ C q := by
  obtain ⟨i, s, h1, h2, h3⟩ := o
  have hl : i < C.length := by rw [← h.1]; exact (List.getElem?_eq_some_iff.mp h1).1
  have q := h.2 i s C[i] h1 (List.getElem?_eq_getElem hl)
  refine ⟨i, s, ?_, h2, h3⟩
  cases s with
  | any => cases h2
  | _ => rw [List.getElem?_eq_getElem hl]; exact congrArg some (Eq.symm q)
theorem Stp.le {F H F1 H1 : Hp} {o : Addr → Prop} {σ : L2.St} (h : Cle C' C) (s : Stp F H o F1 H1 (Own σ C)) : Stp F H o F1 H1 (Own σ C') :=
  ⟨s.e, fun a u h1 n => let ⟨x1, x2, x3⟩ := s.k a u h1 n; ⟨x1, fun o => x2 (o.le h), x3⟩, s.t, s.tb⟩
theorem Cle.refl (C : Ct) : Cle C C := ⟨rfl, fun i s t h1 h2 => by rw [h1] at h2; cases h2; cases s <;> first | trivial | rfl⟩
theorem Cle.nil : Cle [] [] := .refl []
theorem Cle.any {s : Sl} (h : Cle C' C) : Cle (.any :: C') (s :: C) := ⟨by simp [h.1], fun i s' t h1 h2 => by
  cases i with
  | zero => simp at h1; subst h1; trivial
  | succ i => simp at h1 h2; exact h.2 i s' t h1 h2⟩
theorem Cle.same {s : Sl} (h : Cle C' C) : Cle (s :: C') (s :: C) := ⟨by simp [h.1], fun i s' t h1 h2 => by
  cases i with
  | zero => simp at h1 h2; subst h1; subst h2; cases s <;> first | trivial | rfl
  | succ i => simp at h1 h2; exact h.2 i s' t h1 h2⟩
/-- the end of a block, slots forgotten -/
theorem gs_end (C' : Ct) (hc : Cle C' C) (h : P (.nx C')) : GS X [] C P := fun F H σ D' S q => wpSs_of pss_nil (q _ h F H σ (Stp.le hc .refl) (S.le hc))
/-- slots forgotten -/
theorem gs_weak {st : List Stmt} (C' : Ct) (hc : Cle C' C) (h : GS X st C' P) : GS X st C P := fun F H σ D' S q => h F H σ D' (S.le hc) fun o ho => (q o ho).step (Stp.le hc .refl)
end
end G
/-! G5: lists changed by place, targets, loops. -/
namespace G
open PySem L2
/-- a slot that holds a list -/
def Sl.ls : Sl → Option (List D)
  | .ol ds => some ds
  | .op _ ds => some ds
  | _ => none
def Sl.wl : Sl → List D → Sl
  | .ol _, ds => .ol ds
  | .op p _, ds => .op p ds
  | s, _ => s
section
variable {X : Cx} {a b c e : Expr} {C C1 C2 C3 C' : Ct} {d d1 d2 d3 : D} {ds ds' : List D} {pos p : Pos} {i j : Int} {x y : Str} {P : Out → Prop} {rest : List Stmt} {s : Sl}
theorem SlOk.ls {F H : Hp} {ov : Option (Option V)} (hs : s.ls = some ds) (h : SlOk F H ov s) : ∃ p vs, ov = some (some (.ref p)) ∧ H p = some (.lst vs) ∧ RA F vs ds ∧ F p = none := by
  cases s with
  | ol ds' => cases hs; exact h
  | op p ds' => cases hs; obtain ⟨vs, h⟩ := h; exact ⟨p, vs, h⟩
  | _ => cases hs
theorem Sl.ls_own (hs : s.ls = some ds) : s.own = true := by cases s <;> first | rfl | cases hs
theorem Sl.wl_ls (hs : s.ls = some ds) : (s.wl ds').ls = some ds' := by cases s <;> first | rfl | cases hs
theorem SlOk.nt {F H : Hp} {p : Addr} {u : HO} (h : SlOk F H (some (some (V.ref p))) s) (o : s.own = true) (hu : H p = some u) : ∀ ps, u ≠ .tbl ps := by
  cases s with
  | ol ds => obtain ⟨q, vs, h1, h2, h3, h4⟩ := h; cases h1; rw [h2] at hu; cases hu; intro _ z; cases z
  | op q ds => obtain ⟨vs, h1, h2, h3, h4⟩ := h; cases h1; rw [h2] at hu; cases hu; intro _ z; cases z
  | ob s => obtain ⟨q, vs, h1, h2, h3, h4⟩ := h; cases h1; rw [h2] at hu; cases hu; exact s.nt h3
  | _ => cases o
/-- one's own object is changed -/
theorem Sat.wr {F H : Hp} {σ : L2.St} {i : Nat} {p : Addr} {o : HO} {s' : Sl} (S : Sat F H σ C) (hC : C[i]? = some s) (hs : s.own = true) (e : σ[i]? = some (some (.ref p))) (ok : SlOk F (upd H p o) σ[i]? s') (hs' : s'.own = true) : Sat F (upd H p o) σ (C.set i s') := by
  obtain ⟨q, u, e', h1, h2⟩ := (S.sl i s hC).own hs
  rw [e] at e'; cases e'
  have hi : i < C.length := (List.getElem?_eq_some_iff.mp hC).1
  have low : ∀ (j : Nat) (t : Sl), (C.set i s')[j]? = some t → (j = i ∧ t = s') ∨ (j ≠ i ∧ C[j]? = some t) := fun j t h => by
    by_cases hj : i = j
    · subst hj
      rw [List.getElem?_set_self hi] at h
      exact .inl ⟨rfl, (Option.some.inj h).symm⟩
    · rw [List.getElem?_set_ne hj] at h
      exact .inr ⟨fun z => hj z.symm, h⟩
  refine ⟨fun a u q => ?_, by rw [List.length_set]; exact S.len, fun j t h => ?_, fun j k t u a h1 h2 h3 h4 h5 h6 => ?_, S.tb.upd (SlOk.nt (e ▸ ok) hs' upd_same)⟩
  · rw [upd_ne (ne_of_none q h2)]; exact S.ex a u q
  · rcases low j t h with ⟨rfl, rfl⟩ | ⟨hj, h⟩
    · exact ok
    · have q := S.sl j t h
      have ne : t.own = true → ∀ a, σ[j]? = some (some (.ref a)) → a ≠ p := fun w a z y => hj (S.dis j i t s p h hC w hs (y ▸ z) e)
      cases t with
      | any => trivial
      | sh d => exact q
      | ol ds => obtain ⟨a, vs, h1, h2, h3, h4⟩ := q; exact ⟨a, vs, h1, by rw [upd_ne (ne rfl a h1)]; exact h2, h3, h4⟩
      | op a ds => obtain ⟨vs, h1, h2, h3, h4⟩ := q; exact ⟨vs, h1, by rw [upd_ne (ne rfl a h1)]; exact h2, h3, h4⟩
      | sp s => exact q
      | ob s => obtain ⟨a, vs, h1, h2, h3, h4⟩ := q; exact ⟨a, vs, h1, by rw [upd_ne (ne rfl a h1)]; exact h2, h3, h4⟩
  · have toC : ∀ (j : Nat) (t : Sl), (C.set i s')[j]? = some t → t.own = true → ∃ t', C[j]? = some t' ∧ t'.own = true := fun j t h o => by
      rcases low j t h with ⟨rfl, rfl⟩ | ⟨hj, h⟩
      · exact ⟨s, hC, hs⟩
      · exact ⟨t, h, o⟩
    obtain ⟨t', q1, q2⟩ := toC j t h1 h3
    obtain ⟨u', q3, q4⟩ := toC k u h2 h4
    exact S.dis j k t' u' a q1 q3 q2 q4 h5 h6
theorem Own.wr {σ : L2.St} {i : Nat} {s' : Sl} {q : Addr} (hC : C[i]? = some s) (hs : s.own = true) (o : Own σ (C.set i s') q) : Own σ C q := by
  obtain ⟨j, t, h1, h2, h3⟩ := o
  have hi : i < C.length := (List.getElem?_eq_some_iff.mp hC).1
  by_cases hj : i = j
  · subst hj; exact ⟨i, s, hC, hs, h3⟩
  · rw [List.getElem?_set_ne hj] at h1
    exact ⟨j, t, h1, h2, h3⟩
theorem Stp.wr {F H F1 H1 : Hp} {σ : L2.St} {i : Nat} {p : Addr} {o : HO} {s' : Sl} {C0 : Ct} (s1 : Stp F H (Own σ C0) F1 H1 (Own σ C)) (hC : C[i]? = some s) (hs : s.own = true) (e : σ[i]? = some (some (.ref p))) (ho : ∀ ps, o ≠ .tbl ps := by intro _ z; cases z) : Stp F H (Own σ C0) F1 (upd H1 p o) (Own σ (C.set i s')) :=
  ⟨s1.e, (fun a u h n => by
    obtain ⟨h1, h2, h3⟩ := s1.k a u h n
    have ne : a ≠ p := fun z => h2 (z ▸ ⟨i, s, hC, hs, e⟩)
    exact ⟨fun hu => by rw [upd_ne ne]; exact h1 hu, fun o => h2 (o.wr hC hs), h3⟩), (fun a h => by
    by_cases ne : a = p
    · subst ne; rw [upd_same] at h; cases h
    · rw [upd_ne ne] at h; exact s1.t a h), fun t => (s1.tb t).upd ho⟩

/-! ### methods of lists of one's own -/
theorem g_append (i : Nat) {apos : Pos} (hC : C[i]? = some s) (hs : s.ls = some ds) (h : GE X e C d C1) (hC1 : C1[i]? = some s) (hz : ds.length < sizeLine) (hN : X.N[i]? = some x := by rfl) (hv : Vis X.env.scope x := by first | exact Or.inl rfl | exact Or.inr (Or.inl rfl) | exact Or.inr (Or.inr rfl))
    (hd : (x == ("__debug__" : Str)) = false := by decide) (hcd : (x == ("__classdict__" : Str)) = false := by decide) (he : starEach [e] X.env = (false, eval e X.env) :: starEach [] X.env := by rfl)
    (hfew : ((backTo pos (starEach [e] X.env)).all (fun x => !x.1) && (backToKw pos (keywordEach [] X.env)).all (fun x => x.1.isSome) && decide (([e] : List Expr).length + ([] : List Keyword).length + (if ([] : List Keyword).isEmpty then 0 else 1) < 30)) = true := by rfl)
    (hbase : attributeBase (.Name x p) "append" X.env (eval (.Name x p) X.env) = eval (.Name x p) X.env := by rfl) (hline : (apos.endLine == pos.line) = true := by rfl) :
    GE X (.Call (.Attribute (.Name x p) "append" apos) [e] [] pos) C .none (C1.set i (s.wl (ds ++ [d]))) := fun F H σ S Q q => by
  refine wpE_of (pe_bm PySem.F.plainAttrs_list PySem.F.slot_list_append PySem.F.type_list_append mt_append (pe_var hN hv hd hcd) (pa_cons pe_wp pa_nil he) hbase hfew hline he) ?_
  obtain ⟨p, vs, e0, h1, h2, h3⟩ := (S.sl i _ hC).ls hs
  refine ⟨_, e0, .inl ⟨rfl, _, .of h1⟩, ?_⟩
  refine h F H σ S _ fun v F1 H1 s1 S1 r1 => ?_
  obtain ⟨p', vs', e1, g1, g2, g3⟩ := (S1.sl i _ hC1).ls hs
  rw [e0] at e1; cases e1
  refine ⟨p, vs', v, rfl, rfl, g1, by rw [g2.length]; exact hz, ?_⟩
  have ok : SlOk F1 (upd H1 p (.lst (vs' ++ [v]))) σ[i]? (s.wl (ds ++ [d])) := by
    cases s with
    | ol _ => exact ⟨p, _, e0, upd_same, g2.snoc r1, g3⟩
    | op p'' _ =>
      obtain ⟨_, z, _⟩ := S.sl i _ hC
      rw [e0] at z; cases z
      exact ⟨_, e0, upd_same, g2.snoc r1, g3⟩
    | _ => cases hs
  exact q _ F1 _ (s1.wr hC1 (Sl.ls_own hs) e0) (S1.wr hC1 (Sl.ls_own hs) e0 ok (Sl.ls_own (Sl.wl_ls hs))) .non

/-! ### targets -/
def wpG (X : Cx) (tg : Expr) : TG := fun v σ H Q => ∀ pins s u, Inv X pins σ H s → RelV v u → wpAny (model X.prog X.w) X.A (assign tg X.env u) (fun _ s' => ∃ σ' H', Inv X pins σ' H' s' ∧ Q σ' H') X.xe s
theorem pg_wp {tg : Expr} : PG X tg (wpG X tg) := ⟨fun pins s σ H v u Q I r h => h pins s u I r⟩
theorem wpG_of {tg : Expr} {t : TG} {v : V} {σ : L2.St} {H : Hp} {Q : L2.St → Hp → Prop} (h : PG X tg t) (q : t v σ H Q) : wpG X tg v σ H Q := fun pins s u I r => h.run pins s σ H v u Q I r q
def wpGs (X : Cx) (tgs : List Expr) : TGs := fun vs σ H Q => ∀ pins s us, Inv X pins σ H s → Vals vs us → wpAny (model X.prog X.w) X.A (assignInOrder ((assignEach tgs X.env).map (·.2)) us) (fun _ s' => ∃ σ' H', Inv X pins σ' H' s' ∧ Q σ' H') X.xe s
theorem pgs_wp {tgs : List Expr} : PGs X tgs (wpGs X tgs) := ⟨fun pins s σ H v u Q I r h => h pins s u I r⟩
theorem wpGs_of {tgs : List Expr} {t : TGs} {vs : List V} {σ : L2.St} {H : Hp} {Q : L2.St → Hp → Prop} (h : PGs X tgs t) (q : t vs σ H Q) : wpGs X tgs vs σ H Q := fun pins s u I r => h.run pins s σ H vs u Q I r q
/-- only the slots is differ -/
def Upd (is : List Nat) (σ σ' : L2.St) : Prop := σ'.length = σ.length ∧ ∀ j, j ∉ is → σ'[j]? = σ[j]?
theorem Upd.refl {is : List Nat} {σ : L2.St} : Upd is σ σ := ⟨rfl, fun _ _ => rfl⟩
theorem Upd.trans {is js : List Nat} {σ σ1 σ2 : L2.St} (a : Upd is σ σ1) (b : Upd js σ1 σ2) : Upd (is ++ js) σ σ2 :=
  ⟨b.1.trans a.1, fun j h => (b.2 j fun z => h (List.mem_append_right _ z)).trans (a.2 j fun z => h (List.mem_append_left _ z))⟩
def GG (X : Cx) (tg : Expr) (is : List Nat) (d : D) (C C' : Ct) : Prop := ∀ F H σ v, Sat F H σ C → R F v d → ∀ Q : L2.St → Hp → Prop,
  (∀ σ', Upd is σ σ' → Stp F H (Own σ C) F H (Own σ' C') → Sat F H σ' C' → Q σ' H) → wpG X tg v σ H Q
def GGs (X : Cx) (tgs : List Expr) (is : List Nat) (ds : List D) (C C' : Ct) : Prop := ∀ F H σ vs, Sat F H σ C → RA F vs ds → ∀ Q : L2.St → Hp → Prop,
  (∀ σ', Upd is σ σ' → Stp F H (Own σ C) F H (Own σ' C') → Sat F H σ' C' → Q σ' H) → wpGs X tgs vs σ H Q
theorem gg_name (i : Nat) (hN : X.N.Nodup) (hl : i < C.length := by exact Nat.le_of_ble_eq_true rfl) (hi : X.N[i]? = some x := by rfl) (hx : Loc X.env.scope x := by first | exact .inl rfl | exact .inr rfl) (hf : X.fn x = true ∨ X.env.scope.names.lookup x = some .local := by first | exact .inl rfl | exact .inr rfl) :
    GG X (.Name x pos) [i] d C (C.set i (.sh d)) := fun F H σ v S r Q q => by
  refine wpG_of (pg_name hN hi hx hf) ?_
  exact q _ ⟨List.length_set, fun j hj => List.getElem?_set_ne (fun z => hj (by simp [z]))⟩ (Stp.sh rfl) (S.asg hl ⟨v, rfl, r⟩ fun z => nomatch z)
theorem ggs_nil : GGs X [] [] [] C C := fun F H σ vs S r Q q => by
  cases r
  exact wpGs_of pgs_nil ⟨rfl, q σ .refl .refl S⟩
theorem ggs_cons {tgs : List Expr} {is js : List Nat} (h1 : GG X a is d C C1) (h2 : GGs X tgs js ds C1 C2) (hs : (assignEach (a :: tgs) X.env).map (·.2) = assign a X.env :: (assignEach tgs X.env).map (·.2) := by rfl) : GGs X (a :: tgs) (is ++ js) (d :: ds) C C2 := fun F H σ vs S r Q q => by
  cases r with
  | cons r1 r2 =>
    refine wpGs_of (pgs_cons pg_wp pgs_wp hs) ⟨_, _, rfl, ?_⟩
    exact h1 F H σ _ S r1 _ fun σ1 u1 s1 S1 => h2 F H σ1 _ S1 r2 Q fun σ2 u2 s2 S2 => q σ2 (u1.trans u2) (s1.trans s2) S2
theorem gg_tup {tgs : List Expr} {is : List Nat} {k : Nat} (hc : X.calm = true) (h : GGs X tgs is ds C C1) (hn : (assignEach tgs X.env).length = ds.length := by rfl) (hst : (assignEach tgs X.env).findIdx? (·.1) = none := by rfl) : GG X (.Tuple tgs k pos) is (.tuple ds) C C1 := fun F H σ v S r Q q => by
  refine wpG_of (pg_tup hc pgs_wp hn hst) ?_
  obtain ⟨a, vs, rfl, f, h1, r1⟩ := Rd1.tuple S.ex (.inl r)
  exact ⟨a, vs, rfl, .of h1, r1.length, h F H σ vs S r1 Q q⟩
/-- (a, b, ..) = e -/
theorem gs_asg {tg : Expr} {is : List Nat} (h : GE X e C d C1) (hg : GG X tg is d C1 C2) (hr : GS X rest C2 P) (hs : swapsWithSole [tg] e pos.line X.env = pure false := by rfl) (hw : swappedStores [tg] e X.env = pure none := by rfl)
    (h1 : (assignEach [tg] X.env).map (·.2) = [assign tg X.env] := by rfl) : GS X (.Assign [tg] e pos :: rest) C P := fun F H σ D' S q => by
  refine wpSs_of (pss_cons (ps_asg pe_wp pg_wp hs hw h1) pss_wp) ?_
  exact h F H σ S _ fun v F1 H1 s1 S1 r1 => hg F1 H1 σ v S1 r1 _ fun σ2 _ s2 S2 => hr F1 H1 σ2 D' S2 fun o ho => (q o ho).step (s1.trans s2)
/-- a, b = e1, e2, plain names -/
theorem gs_par (i j : Nat) {px py pt : Pos} {kt k2 pt2} (hc : X.calm = true) (hN : X.N.Nodup) (ha : GE X a C d1 C1) (hb : GE X b C1 d2 C2) (hr : GS X rest ((C2.set i (.sh d1)).set j (.sh d2)) P) (hli : i < C2.length := by exact Nat.le_of_ble_eq_true rfl) (hlj : j < C2.length := by exact Nat.le_of_ble_eq_true rfl) (hij : i ≠ j := by decide)
    (hi : X.N[i]? = some x := by rfl) (hj : X.N[j]? = some y := by rfl) (hx : X.env.scope.names.lookup x = some .local := by rfl) (hy : X.env.scope.names.lookup y = some .local := by rfl)
    (he : starEach [a, b] X.env = (false, eval a X.env) :: starEach [b] X.env := by rfl) (he2 : starEach [b] X.env = (false, eval b X.env) :: starEach [] X.env := by rfl)
    (hw : swappedStores [.Tuple [.Name x px, .Name y py] kt pt] (.Tuple [a, b] k2 pt2) X.env = pure (some [x, y]) := by rfl)
    (hs : swapsWithSole [.Tuple [.Name x px, .Name y py] kt pt] (.Tuple [a, b] k2 pt2) pos.line X.env = pure false := by rfl) : GS X (.Assign [.Tuple [.Name x px, .Name y py] kt pt] (.Tuple [a, b] k2 pt2) pos :: rest) C P := fun F H σ D' S q => by
  refine wpSs_of (pss_cons (ps_par hc hN hi hj hij hx hy (pa_cons pe_wp (pa_cons pe_wp pa_nil he2) he) hw hs) pss_wp) ?_
  refine ha F H σ S _ fun v F1 H1 s1 S1 r1 => hb F1 H1 σ S1 _ fun u F2 H2 s2 S2 r2 => ⟨v, u, rfl, ?_⟩
  have S3 : Sat F2 H2 (σ.set i (some v)) (C2.set i (.sh d1)) := S2.asg hli ⟨v, rfl, r1.mono s2.e⟩ fun z => nomatch z
  have S4 : Sat F2 H2 ((σ.set i (some v)).set j (some u)) ((C2.set i (.sh d1)).set j (.sh d2)) := S3.asg (by rw [List.length_set]; exact hlj) ⟨u, rfl, r2⟩ fun z => nomatch z
  exact hr F2 H2 _ D' S4 fun o ho => (q o ho).step (((s1.trans s2).trans (Stp.sh rfl)).trans (Stp.sh rfl))
/-- xs[k] = e -/
theorem gs_setIx (i : Nat) {n : Int} {k : Nat} {p2 p3 : Pos} (h : GE X e C d C1) (hC1 : C1[i]? = some s) (hs : s.ls = some ds) (hb : GE X b C1 (.int n) C1) (hk : ixN ds.length n = some k) (hr : GS X rest (C1.set i (s.wl (ds.set k d))) P)
    (hN : X.N[i]? = some x := by rfl) (hv : Vis X.env.scope x := by first | exact Or.inl rfl | exact Or.inr (Or.inl rfl) | exact Or.inr (Or.inr rfl)) (hd : (x == ("__debug__" : Str)) = false := by decide) (hcd : (x == ("__classdict__" : Str)) = false := by decide)
    (ha : ∀ v, assign (.Subscript (.Name x p2) b p3) X.env v = (do
      let ov ← holding [v] (eval (.Name x p2) X.env)
      let iv ← holding [v, ov] (eval b X.env)
      standAt p3
      holding [v, ov, iv] (setItem ov iv v)
      release [v, ov, iv] []) := by intro _; rfl)
    (hw : swapsWithSole [.Subscript (.Name x p2) b p3] e pos.line X.env = pure false := by rfl) (hsw : swappedStores [.Subscript (.Name x p2) b p3] e X.env = pure none := by rfl)
    (h1 : (assignEach [.Subscript (.Name x p2) b p3] X.env).map (·.2) = [assign (.Subscript (.Name x p2) b p3) X.env] := by rfl) : GS X (.Assign [.Subscript (.Name x p2) b p3] e pos :: rest) C P := fun F H σ D' S q => by
  refine wpSs_of (pss_cons (ps_asg pe_wp (pg_sub (pe_var hN hv hd hcd) pe_wp set_list ha) hw hsw h1) pss_wp) ?_
  refine h F H σ S _ fun v F1 H1 s1 S1 r1 => ?_
  obtain ⟨p, vs, e0, g1, g2, g3⟩ := (S1.sl i _ hC1).ls hs
  refine ⟨_, e0, ?_⟩
  refine hb F1 H1 σ S1 _ fun u F2 H2 s2 S2 r2 => ?_
  cases r2
  obtain ⟨p', vs', e1, g1, g2, g3⟩ := (S2.sl i _ hC1).ls hs
  rw [e0] at e1; cases e1
  refine ⟨p, vs', n, k, rfl, rfl, g1, by rw [g2.length]; exact hk, ?_⟩
  have ok : SlOk F2 (upd H2 p (.lst (vs'.set k v))) σ[i]? (s.wl (ds.set k d)) := by
    cases s with
    | ol _ => exact ⟨p, _, e0, upd_same, g2.set k (r1.mono s2.e), g3⟩
    | op p'' _ =>
      obtain ⟨_, z, _⟩ := S1.sl i _ hC1
      rw [e0] at z; cases z
      exact ⟨_, e0, upd_same, g2.set k (r1.mono s2.e), g3⟩
    | _ => cases hs
  exact hr F2 _ σ D' (S2.wr hC1 (Sl.ls_own hs) e0 ok (Sl.ls_own (Sl.wl_ls hs))) fun o ho => (q o ho).step ((s1.trans s2).wr hC1 (Sl.ls_own hs) e0)
/-- x op= e, values that stay -/
def VP (t : TIp) (d1 d2 d : D) : Prop := V2 t d1 d2 d
theorem gs_aug (i : Nat) {op : Operator} {t : TIp} {p2 : Pos} (hN : X.N.Nodup) (hC : C[i]? = some (.sh d1)) (ho : PIp X op t) (h : GE X e C d2 C1) (hV : V2 t d1 d2 d) (hr : GS X rest (C1.set i (.sh d)) P) (hl : i < C1.length := by exact Nat.le_of_ble_eq_true rfl) (hi : X.N[i]? = some x := by rfl) (hx : Loc X.env.scope x := by first | exact .inl rfl | exact .inr rfl)
    (hf : X.fn x = true ∨ X.env.scope.names.lookup x = some .local := by first | exact .inl rfl | exact .inr rfl) : GS X (.AugAssign (.Name x p2) op e pos :: rest) C P := fun F H σ D' S q => by
  refine wpSs_of (pss_cons (ps_aug hN hi hx pe_wp ho hf) pss_wp) ?_
  obtain ⟨v, e0, r0⟩ := S.sl i _ hC
  refine ⟨v, e0, ?_⟩
  refine h F H σ S _ fun u F1 H1 s1 S1 r1 => hV F1 H1 v u S1.ex (.inl (r0.mono s1.e)) (.inl r1) _ fun z F2 H2 x r2 => ?_
  have S2 := S1.xs x
  exact hr F2 H2 _ D' (S2.asg hl ⟨z, rfl, r2⟩ fun z => nomatch z) fun o ho => (q o ho).step ((s1.trans x.stp).trans (Stp.sh rfl))
theorem ip_mulW : PIp X .Mult (rI CMulW fun i j => .int (i * j)) := (opI fun _ _ _ _ _ _ _ hc q => PyProof.Rows.imul_int q hc.ok : OpR X (inplaceOp .Mult) _)
theorem ip_fdivX : PIp X .FloorDiv (rI CDivX fun i j => .int (i.fdiv j)) := (opI fun i j _ _ _ _ _ hc q => PyProof.Rows.ifloordiv_int hc.1 q (.inl (PyProof.noPylong_of_log2 hc.2)) : OpR X (inplaceOp .FloorDiv) _)
variable {u v w : Int}
theorem gs_augAdd (i : Nat) {p2 : Pos} (hN : X.N.Nodup) (hC : C[i]? = some (.sh (.int u))) (h : GE X e C (.int v) C1) (hr : GS X rest (C1.set i (.sh (.int (u + v)))) P) (hl : i < C1.length := by exact Nat.le_of_ble_eq_true rfl) (hi : X.N[i]? = some x := by rfl) (hx : Loc X.env.scope x := by first | exact .inl rfl | exact .inr rfl)
    (hf : X.fn x = true ∨ X.env.scope.names.lookup x = some .local := by first | exact .inl rfl | exact .inr rfl) : GS X (.AugAssign (.Name x p2) .Add e pos :: rest) C P := gs_aug i hN hC iop_add h v_add hr hl hi hx hf
theorem gs_augMul (i : Nat) {p2 : Pos} (hk : pmul u v = some w) (hN : X.N.Nodup) (hC : C[i]? = some (.sh (.int u))) (h : GE X e C (.int v) C1) (hr : GS X rest (C1.set i (.sh (.int w))) P) (hl : i < C1.length := by exact Nat.le_of_ble_eq_true rfl) (hi : X.N[i]? = some x := by rfl) (hx : Loc X.env.scope x := by first | exact .inl rfl | exact .inr rfl)
    (hf : X.fn x = true ∨ X.env.scope.names.lookup x = some .local := by first | exact .inl rfl | exact .inr rfl) : GS X (.AugAssign (.Name x p2) .Mult e pos :: rest) C P := gs_aug i hN hC ip_mulW h (v_mul hk) hr hl hi hx hf
theorem gs_augDiv (i : Nat) {p2 : Pos} (hk : pdiv u v = some w) (hN : X.N.Nodup) (hC : C[i]? = some (.sh (.int u))) (h : GE X e C (.int v) C1) (hr : GS X rest (C1.set i (.sh (.int w))) P) (hl : i < C1.length := by exact Nat.le_of_ble_eq_true rfl) (hi : X.N[i]? = some x := by rfl) (hx : Loc X.env.scope x := by first | exact .inl rfl | exact .inr rfl)
    (hf : X.fn x = true ∨ X.env.scope.names.lookup x = some .local := by first | exact .inl rfl | exact .inr rfl) : GS X (.AugAssign (.Name x p2) .FloorDiv e pos :: rest) C P := gs_aug i hN hC ip_fdivX h (v_div hk) hr hl hi hx hf

/-! ### while -/
/-- a loop that goes on while c -/
def whF {S : Type} (c : S → Option Bool) (f : S → Option S) : Nat → S → Option S
  | 0, _ => none
  | n + 1, s => match c s with
    | none => none
    | some false => some s
    | some true => match f s with
      | none => none
      | some s' => whF c f n s'
def whR {S ρ : Type} (c : S → Option Bool) (f : S → Option (S ⊕ ρ)) : Nat → S → Option (S ⊕ ρ)
  | 0, _ => none
  | n + 1, s => match c s with
    | none => none
    | some false => some (.inl s)
    | some true => match f s with
      | none => none
      | some (.inl s') => whR c f n s'
      | some (.inr r) => some (.inr r)
def Ret (P : Out → Prop) : Out → Prop
  | .nx _ => False
  | o => P o
theorem gs_whR {S ρ : Type} {A : List Stmt} {Cs : S → Ct} {c : S → Option Bool} {f : S → Option (S ⊕ ρ)} {n : Nat} {s0 : S} {z : S ⊕ ρ} {c_ : Expr} {Pr : ρ → Out → Prop} (hw : whR c f n s0 = some z) (h0 : Cle (Cs s0) C) (hp : PassesOwn (model X.prog X.w) X.A X.env X.xe)
    (hc : ∀ s k, c s = some k → GT X c_ (Cs s) k (Cs s)) (hb : ∀ s s', c s = some true → f s = some (.inl s') → GS X A (Cs s) (fun o => o = .nx (Cs s'))) (hbr : ∀ s r, c s = some true → f s = some (.inr r) → GS X A (Cs s) (Ret (Pr r)))
    (hr : ∀ s1, z = .inl s1 → GS X rest (Cs s1) P) (hrr : ∀ r, z = .inr r → ∀ o, Ret (Pr r) o → P o) : GS X (.While c_ A [] pos :: rest) C P := fun F H σ D' S q => by
  refine wpSs_of (pss_cons (ps_while hp pt_wp pss_wp) pss_wp) ?_
  refine ⟨fun m σ1 H1 => ∃ s F1, whR c f m s = some z ∧ Stp F H (Own σ C) F1 H1 (Own σ1 (Cs s)) ∧ Sat F1 H1 σ1 (Cs s), ⟨n, s0, F, hw, Stp.le h0 .refl, S.le h0⟩, ?_⟩
  rintro m σ1 H1 ⟨s, F1, hm, st, S1⟩
  cases m with
  | zero => cases hm
  | succ m =>
    unfold whR at hm
    cases hcs : c s with
    | none => rw [hcs] at hm; cases hm
    | some k =>
      rw [hcs] at hm
      refine hc s k hcs F1 H1 σ1 S1 _ fun F2 H2 s2 S2 => ?_
      cases k with
      | false =>
        cases hm
        exact iteF (hr s rfl F2 H2 σ1 D' S2 fun o ho => (q o ho).step (st.trans s2))
      | true =>
        refine iteT ?_
        cases hfs : f s with
        | none => simp only [hfs] at hm; cases hm
        | some z' =>
          simp only [hfs] at hm
          refine ⟨fun σ3 H3 => ∃ s' F3, z' = .inl s' ∧ Stp F H (Own σ C) F3 H3 (Own σ3 (Cs s')) ∧ Sat F3 H3 σ3 (Cs s'), ?_, ?_⟩
          · rintro σ3 H3 ⟨s', F3, rfl, s3, S3⟩
            exact ⟨m, Nat.lt_succ_self _, s', F3, hm, s3, S3⟩
          · cases z' with
            | inl s' =>
              refine hb s s' hcs hfs F2 H2 σ1 _ S2 fun o ho => ?_
              subst ho
              exact fun F3 H3 σ3 s3 S3 => ⟨s', F3, rfl, (st.trans s2).trans s3, S3⟩
            | inr r =>
              cases hm
              refine hbr s r hcs hfs F2 H2 σ1 _ S2 fun o ho => ?_
              have hP := hrr r rfl o ho
              cases o with
              | nx _ => exact ho.elim
              | rt d C2 => exact (q _ hP).step (st.trans s2)
              | rn ds C2 => exact (q _ hP).step (st.trans s2)
theorem gs_whF {S : Type} {A : List Stmt} {Cs : S → Ct} {c : S → Option Bool} {f : S → Option S} {n : Nat} {s0 s1 : S} {c_ : Expr} (hw : whF c f n s0 = some s1) (h0 : Cle (Cs s0) C) (hp : PassesOwn (model X.prog X.w) X.A X.env X.xe)
    (hc : ∀ s k, c s = some k → GT X c_ (Cs s) k (Cs s)) (hb : ∀ s s', c s = some true → f s = some s' → GS X A (Cs s) (fun o => o = .nx (Cs s')))
    (hr : GS X rest (Cs s1) P) : GS X (.While c_ A [] pos :: rest) C P := by
  refine gs_whR (ρ := Empty) (f := fun s => (f s).map .inl) (z := .inl s1) (n := n) (Pr := fun r => r.elim) ?_ h0 hp hc (fun s s' h1 h2 => ?_) (fun s r _ h2 => r.elim) (fun s e => by cases e; exact hr) (fun r => r.elim)
  · clear hr h0
    induction n generalizing s0 with
    | zero => cases hw
    | succ n ih =>
      unfold whF at hw
      unfold whR
      cases hcs : c s0 with
      | none => rw [hcs] at hw; cases hw
      | some k =>
        rw [hcs] at hw
        cases k with
        | false => cases hw; rfl
        | true =>
          cases hfs : f s0 with
          | none => simp only [hfs] at hw; cases hw
          | some s' =>
            simp only [hfs] at hw
            simp only [hfs, Option.map_some]
            exact ih hw
  · cases hfs : f s with
    | none => rw [hfs] at h2; cases h2
    | some s'' => rw [hfs] at h2; cases h2; exact hb s _ h1 hfs
end
end G
/-! G6: what is walked, for, list comprehensions. -/
namespace G
open PySem L2
def wpI (X : Cx) (tg iter : Expr) : TI := fun σ H R => ∀ pins s, Inv X pins σ H s → wpAny (model X.prog X.w) X.A (eval iter X.env) (fun v s1 => wpAny (model X.prog X.w) X.A (pyIter v) (PIE X pins σ tg R) X.xe s1) X.xe s
theorem pi_wp {X : Cx} {tg iter : Expr} : PI X tg iter (wpI X tg iter) := ⟨fun pins s σ H R I h => h pins s I⟩
theorem wpI_of {X : Cx} {tg iter : Expr} {t : TI} {σ : L2.St} {H : Hp} {R : It → Hp → Prop} (h : PI X tg iter t) (q : t σ H R) : wpI X tg iter σ H R := fun pins s I => h.run pins s σ H R I q
/-- the data that an iterator yields, one by one, while F0 stays -/
structure Yields (J : It) (F0 : Hp) (ds : List D) : Prop where
  go : ∀ i H F, Ext F0 F → Ext F H → i < ds.length → J.go i H
  yld : ∀ i H F x H', Ext F0 F → Ext F H → J.yld i H x H' → ∃ F', XS F H F' H' ∧ ∀ d, ds[i]? = some d → R F' x d
  stop : ∀ H F, Ext F0 F → Ext F H → J.stop ds.length H
def GI (X : Cx) (tg iter : Expr) (C : Ct) (ds : List D) (C' : Ct) : Prop := ∀ F H σ, Sat F H σ C → ∀ Rr : It → Hp → Prop,
  (∀ J F' H', Stp F H (Own σ C) F' H' (Own σ C') → Sat F' H' σ C' → Yields J F' ds → Rr J H') → wpI X tg iter σ H Rr
section
variable {X : Cx} {tg iter a b c e : Expr} {C C1 C2 C3 C' : Ct} {d d1 d2 d3 : D} {ds ds' : List D} {pos p : Pos} {i j k : Int} {x y : Str} {P : Out → Prop} {rest : List Stmt} {s : Sl}
theorem yields_list {K : PySem.W.Frag} {F : Hp} {q : Addr} {vs : List V} (h : Rd F q (.lst vs)) (r : RA F vs ds) : Yields (Itl K q) F ds where
  go := fun i H F' e1 e2 hi => by
    have hl : i < vs.length := by rw [r.length]; exact hi
    exact ⟨vs, vs[i], .inl (e2.rd (e1.rd h)), List.getElem?_eq_getElem hl⟩
  yld := fun i H F' x H' e1 e2 y => by
    obtain ⟨rfl, y⟩ := y
    refine ⟨F', .refl e2, fun d hd => ?_⟩
    obtain ⟨v, h1, h2⟩ := r.get hd
    have := y vs (.inl (e2.rd (e1.rd h)))
    rw [h1] at this; cases this
    exact h2.mono e1
  stop := fun H F' e1 e2 => ⟨vs, .inl (e2.rd (e1.rd h)), by rw [r.length]; exact Nat.le_refl _⟩
theorem yields_tup {K : PySem.W.Frag} {F : Hp} {q : Addr} {vs : List V} (h : F q = some (.tup vs)) (r : RA F vs ds) : Yields (Itt K q) F ds where
  go := fun i H F' e1 e2 hi => by
    have hl : i < vs.length := by rw [r.length]; exact hi
    exact ⟨vs, vs[i], .of (e2 _ _ (e1 _ _ h)), List.getElem?_eq_getElem hl⟩
  yld := fun i H F' x H' e1 e2 y => by
    obtain ⟨rfl, y⟩ := y
    refine ⟨F', .refl e2, fun d hd => ?_⟩
    obtain ⟨v, h1, h2⟩ := r.get hd
    have := y vs (.of (e2 _ _ (e1 _ _ h)))
    rw [h1] at this; cases this
    exact h2.mono e1
  stop := fun H F' e1 e2 => ⟨vs, .of (e2 _ _ (e1 _ _ h)), by rw [r.length]; exact Nat.le_refl _⟩
theorem gi_list (h : GE X e C (.list ds) C1) : GI X tg e C ds C1 := fun F H σ S Rr q => by
  refine wpI_of (pi_list pe_wp) ?_
  refine h F H σ S _ fun v F1 H1 s1 S1 r1 => ?_
  cases r1 with
  | lst h1 h2 => exact ⟨_, rfl, ⟨_, .inl (S1.ex.rd h1)⟩, q _ F1 H1 s1 S1 (yields_list h1 h2)⟩
theorem gi_tup (h : GE X e C (.tuple ds) C1) : GI X tg e C ds C1 := fun F H σ S Rr q => by
  refine wpI_of (pi_tup pe_wp) ?_
  refine h F H σ S _ fun v F1 H1 s1 S1 r1 => ?_
  cases r1 with
  | tup h1 h2 => exact ⟨_, rfl, ⟨_, .of (S1.ex _ _ h1)⟩, q _ F1 H1 s1 S1 (yields_tup h1 h2)⟩
/-- lo, lo + 1, .. -/
def irange (lo hi : Int) : List Int := (List.range (hi - lo).toNat).map fun (k : Nat) => lo + (k : Int)
theorem irange_get {lo hi : Int} {k : Nat} {z : Int} (h : (irange lo hi)[k]? = some z) : z = lo + (k : Int) := by
  unfold irange at h
  rw [List.getElem?_map] at h
  cases q : (List.range (hi - lo).toNat)[k]? with
  | none => rw [q] at h; cases h
  | some m =>
    rw [q] at h
    obtain ⟨hk, e⟩ := List.getElem?_eq_some_iff.mp q
    rw [List.getElem_range] at e
    subst e
    exact (Option.some.inj h).symm
theorem yields_range {F : Hp} {lo : Int} {n : Nat} {hi : Int} (hn : n = (hi - lo).toNat) : Yields (Itr lo n) F ((irange lo hi).map .int) where
  go := fun i H F' e1 e2 hi' => by
    have : i < n := by simpa [irange, hn] using hi'
    exact this
  yld := fun i H F' x H' e1 e2 y => by
    obtain ⟨rfl, rfl⟩ := y
    refine ⟨F', .refl e2, fun d hd => ?_⟩
    rw [List.getElem?_map] at hd
    cases q : (irange lo hi)[i]? with
    | none => rw [q] at hd; cases hd
    | some z =>
      rw [q] at hd
      cases hd
      rw [irange_get q]
      exact .int _
  stop := fun H F' e1 e2 => by
    show n ≤ _
    simp [irange, hn]
def rgOk (k : Int) : Bool := decide (-(2 ^ 62) ≤ k ∧ k < 2 ^ 62)
theorem gi_range1 (hm : X.mg "range" = none) (ha : GE X a C (.int k) C1) (hk : rgOk k = true) (hg : Gl X "range" := by rfl) (hs : starEach [a] X.env = [(false, eval a X.env)] := by rfl) : GI X tg (.Call (.Name "range" p) [a] [] pos) C ((irange 0 k).map .int) C1 := fun F H σ S Rr q => by
  have hk := of_decide_eq_true hk
  refine wpI_of (pi_range1 hg hm (pa_cons pe_wp pa_nil hs) hs) ?_
  refine ha F H σ S _ fun v F1 H1 s1 S1 r1 => ?_
  cases r1
  exact ⟨k, rfl, hk.1, hk.2, q _ F1 H1 s1 S1 (yields_range (by omega))⟩
theorem gi_range2 (hm : X.mg "range" = none) (ha : GE X a C (.int j) C1) (hb : GE X b C1 (.int k) C2) (hj : rgOk j = true) (hk : rgOk k = true) (hg : Gl X "range" := by rfl) (hs : starEach [a, b] X.env = [(false, eval a X.env), (false, eval b X.env)] := by rfl) (hs2 : starEach [b] X.env = [(false, eval b X.env)] := by rfl) :
    GI X tg (.Call (.Name "range" p) [a, b] [] pos) C ((irange j k).map .int) C2 := fun F H σ S Rr q => by
  have hj := of_decide_eq_true hj
  have hk := of_decide_eq_true hk
  refine wpI_of (pi_range2 hg hm (pa_cons pe_wp (pa_cons pe_wp pa_nil hs2) (hs.trans (by rw [hs2]))) hs hs2) ?_
  refine ha F H σ S _ fun v F1 H1 s1 S1 r1 => hb F1 H1 σ S1 _ fun u F2 H2 s2 S2 r2 => ?_
  cases r1; cases r2
  exact ⟨j, k, rfl, ⟨hj.1, hj.2, hk.1, hk.2⟩, q _ F2 H2 (s1.trans s2) S2 (yields_range rfl)⟩
/-- hi, hi - 1, .., lo + 1 -/
def drange (hi lo : Int) : List Int := (List.range (hi - lo).toNat).map fun (k : Nat) => hi - (k : Int)
theorem yields_down {F : Hp} {lo hi : Int} : Yields (Itc hi (-1) (hi - lo).toNat) F ((drange hi lo).map .int) where
  go := fun i H F' e1 e2 hi' => by
    have : i < (hi - lo).toNat := by simpa [drange] using hi'
    exact this
  yld := fun i H F' x H' e1 e2 y => by
    obtain ⟨rfl, rfl⟩ := y
    refine ⟨F', .refl e2, fun d hd => ?_⟩
    unfold drange at hd
    rw [List.getElem?_map, List.getElem?_map] at hd
    cases q : (List.range (hi - lo).toNat)[i]? with
    | none => rw [q] at hd; cases hd
    | some m =>
      rw [q] at hd
      obtain ⟨hk, e⟩ := List.getElem?_eq_some_iff.mp q
      rw [List.getElem_range] at e
      subst e
      cases hd
      have e : hi + (i : Int) * -1 = hi - (i : Int) := by omega
      rw [e]
      exact .int _
  stop := fun H F' e1 e2 => by
    show (hi - lo).toNat ≤ _
    simp [drange]
theorem gi_rangeD {pu : Pos} {kc : Nat} {pc : Pos} (hm : X.mg "range" = none) (ha : GE X a C (.int j) C1) (hb : GE X b C1 (.int k) C2) (hj : rgOk j = true) (hk : rgOk k = true) (hg : Gl X "range" := by rfl)
    (hs1 : starEach [a, b, .UnaryOp .USub (.Constant (.int 1) kc pc) pu] X.env = (false, eval a X.env) :: starEach [b, .UnaryOp .USub (.Constant (.int 1) kc pc) pu] X.env := by rfl)
    (hs2 : starEach [b, .UnaryOp .USub (.Constant (.int 1) kc pc) pu] X.env = (false, eval b X.env) :: starEach [.UnaryOp .USub (.Constant (.int 1) kc pc) pu] X.env := by rfl)
    (hpl : (backTo pos (starEach [b, .UnaryOp .USub (.Constant (.int 1) kc pc) pu] X.env)).any (·.1) = false := by rfl) :
    GI X tg (.Call (.Name "range" p) [a, b, .UnaryOp .USub (.Constant (.int 1) kc pc) pu] [] pos) C ((drange j k).map .int) C2 := fun F H σ S Rr q => by
  have hj := of_decide_eq_true hj
  have hk := of_decide_eq_true hk
  refine wpI_of (pi_range3 hg hm (pa_cons pe_wp (pa_cons pe_wp (pa_cons (pe_un un_neg pe_int) pa_nil) hs2) hs1) hs1 hpl) ?_
  refine ha F H σ S _ fun v F1 H1 s1 S1 r1 => hb F1 H1 σ S1 _ fun u F2 H2 s2 S2 r2 => ?_
  cases r1; cases r2
  refine ⟨1, rfl, j, k, -1, (j - k).toNat, rfl, ?_, q _ F2 H2 (s1.trans s2) S2 yields_down⟩
  exact RgC.neg hj.1 hj.2 hk.1 hk.2

/-! ### for -/
def forF {α S : Type} (f : α → S → Option S) : List α → S → Option S
  | [], s => some s
  | x :: xs, s => match f x s with
    | none => none
    | some s' => forF f xs s'
def forR {α S ρ : Type} (f : α → S → Option (S ⊕ ρ)) : List α → S → Option (S ⊕ ρ)
  | [], s => some (.inl s)
  | x :: xs, s => match f x s with
    | none => none
    | some (.inl s') => forR f xs s'
    | some (.inr r) => some (.inr r)
theorem gs_forR {α S ρ : Type} {xs : List α} {ε : α → D} {A : List Stmt} {Cs : S → Ct} {f : α → S → Option (S ⊕ ρ)} {s0 : S} {z : S ⊕ ρ} {is : List Nat} {Pr : ρ → Out → Prop} {Cx : α → S → Ct} (hf : forR f xs s0 = some z) (hi : GI X tg iter C (xs.map ε) C1) (h0 : Cle (Cs s0) C1)
    (hp : PassesOwn (model X.prog X.w) X.A X.env X.xe) (hc : X.calm = true) (hg : ∀ x s, GG X tg is (ε x) (Cs s) (Cx x s)) (hb : ∀ x ∈ xs, ∀ s s', f x s = some (.inl s') → GS X A (Cx x s) (fun o => o = .nx (Cs s')))
    (hbr : ∀ x ∈ xs, ∀ s r, f x s = some (.inr r) → GS X A (Cx x s) (Ret (Pr r))) (hr : ∀ s1, z = .inl s1 → GS X rest (Cs s1) P) (hrr : ∀ r, z = .inr r → ∀ o, Ret (Pr r) o → P o) (hs : ∀ x, foldedSetIterable iter X.env x = pure x := by intro _; rfl) : GS X (.For tg iter A [] pos :: rest) C P := fun F H σ D' S q => by
  refine wpSs_of (pss_cons (ps_for hp hc pi_wp pg_wp pss_wp hs) pss_wp) ?_
  refine hi F H σ S _ fun J F1 H1 s1 S1 Y => ?_
  refine ⟨fun i m σ2 H2 => m = xs.length - i ∧ i ≤ xs.length ∧ ∃ s F2, forR f (xs.drop i) s = some z ∧ Stp F1 H1 (Own σ C1) F2 H2 (Own σ2 (Cs s)) ∧ Sat F2 H2 σ2 (Cs s), ⟨_, rfl, Nat.zero_le _, s0, F1, hf, Stp.le h0 .refl, S1.le h0⟩, ?_⟩
  rintro i m σ2 H2 ⟨rfl, hil, s, F2, hm, st, S2⟩
  have yl : ((xs.map ε).length) = xs.length := List.length_map ..
  by_cases hlt : i < xs.length
  · refine .inr ⟨Y.go i H2 F2 st.e S2.ex (by rw [yl]; exact hlt), ?_⟩
    rw [List.drop_eq_getElem_cons hlt] at hm
    unfold forR at hm
    cases hfs : f xs[i] s with
    | none => rw [hfs] at hm; cases hm
    | some z' =>
      rw [hfs] at hm
      refine ⟨fun σ3 H3 => ∃ s' F3, z' = .inl s' ∧ Stp F1 H1 (Own σ C1) F3 H3 (Own σ3 (Cs s')) ∧ Sat F3 H3 σ3 (Cs s'), ?_, ?_⟩
      · rintro σ3 H3 ⟨s', F3, rfl, s3, S3⟩
        exact ⟨xs.length - (i + 1), by omega, rfl, hlt, s', F3, hm, s3, S3⟩
      · intro v H' y
        obtain ⟨F3, x3, r3⟩ := Y.yld i H2 F2 v H' st.e S2.ex y
        have r3 := r3 (ε xs[i]) (by rw [List.getElem?_map, List.getElem?_eq_getElem hlt]; rfl)
        have S3 := S2.xs x3
        refine hg xs[i] s F3 H' σ2 v S3 r3 _ fun σ4 _ s4 S4 => ?_
        have hmem : xs[i] ∈ xs := List.getElem_mem hlt
        cases z' with
        | inl s' =>
          refine hb _ hmem s s' hfs F3 H' σ4 _ S4 fun o ho => ?_
          subst ho
          exact fun F5 H5 σ5 s5 S5 => ⟨s', F5, rfl, ((st.trans x3.stp).trans s4).trans s5, S5⟩
        | inr r =>
          cases hm
          refine hbr _ hmem s r hfs F3 H' σ4 _ S4 fun o ho => ?_
          have hP := hrr r rfl o ho
          cases o with
          | nx _ => exact ho.elim
          | rt d C2 => exact (q _ hP).step (((s1.trans st).trans x3.stp).trans s4)
          | rn ds C2 => exact (q _ hP).step (((s1.trans st).trans x3.stp).trans s4)
  · have e : i = xs.length := by omega
    subst e
    rw [List.drop_length] at hm
    cases hm
    refine .inl ⟨?_, hr s rfl F2 H2 σ2 D' S2 fun o ho => (q o ho).step (s1.trans st)⟩
    rw [← yl]
    exact Y.stop H2 F2 st.e S2.ex
theorem forR_of {α S : Type} {f : α → S → Option S} : ∀ {xs : List α} {s0 s1 : S}, forF f xs s0 = some s1 → forR (ρ := Empty) (fun x s => (f x s).map .inl) xs s0 = some (.inl s1)
  | [], s0, s1, h => by cases h; rfl
  | x :: xs, s0, s1, h => by
    unfold forF at h
    unfold forR
    cases hfs : f x s0 with
    | none => rw [hfs] at h; cases h
    | some s' =>
      rw [hfs] at h
      exact forR_of h
theorem gs_forF {α S : Type} {xs : List α} {ε : α → D} {A : List Stmt} {Cs : S → Ct} {f : α → S → Option S} {s0 s1 : S} {is : List Nat} {Cx : α → S → Ct} (hf : forF f xs s0 = some s1) (hi : GI X tg iter C (xs.map ε) C1) (h0 : Cle (Cs s0) C1)
    (hp : PassesOwn (model X.prog X.w) X.A X.env X.xe) (hc : X.calm = true) (hg : ∀ x s, GG X tg is (ε x) (Cs s) (Cx x s)) (hb : ∀ x ∈ xs, ∀ s s', f x s = some s' → GS X A (Cx x s) (fun o => o = .nx (Cs s')))
    (hr : GS X rest (Cs s1) P) (hs : ∀ x, foldedSetIterable iter X.env x = pure x := by intro _; rfl) : GS X (.For tg iter A [] pos :: rest) C P := by
  refine gs_forR (ρ := Empty) (Pr := fun r => r.elim) (forR_of hf) hi h0 hp hc hg (fun x hx s s' h => ?_) (fun x hx s r h => r.elim) (fun s e => by cases e; exact hr) (fun r => r.elim) hs
  cases hfs : f x s with
  | none => rw [hfs] at h; cases h
  | some s'' => rw [hfs] at h; cases h; exact hb x hx s _ hfs

/-! ### list comprehensions -/
/-- a family of contexts: the blocks of a comprehension -/
def wpEF {ι : Type} (Xs : ι → Cx) (e : Expr) : TE := fun σ H Q => ∀ n pins s, Inv (Xs n) pins σ H s → wpAny (model (Xs n).prog (Xs n).w) (Xs n).A (eval e (Xs n).env) (EP (Xs n) pins σ Q) (Xs n).xe s
def wpTF {ι : Type} (Xs : ι → Cx) (e : Expr) : TT := fun σ H Q => ∀ n pins s, Inv (Xs n) pins σ H s → wpAny (model (Xs n).prog (Xs n).w) (Xs n).A (isTrue e (Xs n).env (eval e (Xs n).env)) (TP (Xs n) pins σ Q) (Xs n).xe s
def wpGF {ι : Type} (Xs : ι → Cx) (tg : Expr) : TG := fun v σ H Q => ∀ n pins s u, Inv (Xs n) pins σ H s → RelV v u → wpAny (model (Xs n).prog (Xs n).w) (Xs n).A (assign tg (Xs n).env u) (fun _ s' => ∃ σ' H', Inv (Xs n) pins σ' H' s' ∧ Q σ' H') (Xs n).xe s
structure Blk where
  s : Shared
  H : Hp
  C : Addr
  cl : List (Str × Addr)
  fp : List Addr
/-- the block of a comprehension -/
abbrev bx (X : Cx) (scope : Scope) (B : Blk) : Cx := X.blk B.s B.H scope (compEnvC scope B.cl B.C X.env) B.fp
/-- slots hidden in a block -/
def hid : Ct → List Nat → Ct
  | C, [] => C
  | C, i :: is => (hid C is).set i .any
theorem hid_length (C : Ct) : ∀ vs, (hid C vs).length = C.length
  | [] => rfl
  | i :: vs => by unfold hid; rw [List.length_set, hid_length C vs]
theorem hid_get {C : Ct} {j : Nat} {s : Sl} : ∀ {vs : List Nat}, (hid C vs)[j]? = some s → s = .any ∨ (j ∉ vs ∧ C[j]? = some s)
  | [], h => .inr ⟨by simp, h⟩
  | i :: vs, h => by
    unfold hid at h
    by_cases hj : i = j
    · subst hj
      by_cases hl : i < (hid C vs).length
      · rw [List.getElem?_set_self hl] at h; exact .inl (Option.some.inj h).symm
      · rw [List.getElem?_eq_none (by rw [List.length_set]; omega)] at h; cases h
    · rw [List.getElem?_set_ne hj] at h
      rcases hid_get h with h | ⟨h1, h2⟩
      · exact .inl h
      · exact .inr ⟨by simp only [List.mem_cons, not_or]; exact ⟨fun z => hj z.symm, h1⟩, h2⟩
theorem wipe_get {σ : L2.St} {j : Nat} : ∀ {vs : List Nat}, j ∉ vs → (wipe σ vs)[j]? = σ[j]?
  | [], _ => rfl
  | i :: vs, h => by
    simp only [List.mem_cons, not_or] at h
    show ((wipe σ vs).set i none)[j]? = _
    rw [List.getElem?_set_ne (Ne.symm h.1), wipe_get h.2]
theorem wipe_in {σ : L2.St} {j : Nat} : ∀ {vs : List Nat}, j ∈ vs → j < σ.length → (wipe σ vs)[j]? = some none
  | i :: vs, h, hl => by
    show ((wipe σ vs).set i none)[j]? = _
    by_cases hj : i = j
    · subst hj; rw [List.getElem?_set_self (by rw [wipe_length]; exact hl)]
    · rw [List.getElem?_set_ne hj]
      rcases List.mem_cons.mp h with h | h
      · exact absurd h.symm hj
      · exact wipe_in h hl
theorem Sat.hid {F H : Hp} {σ : L2.St} {vs : List Nat} (S : Sat F H σ C) : Sat F H (wipe σ vs) (hid C vs) := by
  refine ⟨S.ex, by rw [hid_length, wipe_length]; exact S.len, fun i s h => ?_, fun i j s t a h1 h2 h3 h4 h5 h6 => ?_, S.tb⟩
  · rcases hid_get h with rfl | ⟨h1, h2⟩
    · trivial
    · rw [wipe_get h1]; exact S.sl i s h2
  · rcases hid_get h1 with rfl | ⟨g1, g2⟩
    · cases h3
    · rcases hid_get h2 with rfl | ⟨k1, k2⟩
      · cases h4
      · rw [wipe_get g1] at h5
        rw [wipe_get k1] at h6
        exact S.dis i j s t a g2 k2 h3 h4 h5 h6
/-- no slot among vs is one's own -/
def NoOwn (C : Ct) (vs : List Nat) : Prop := ∀ i ∈ vs, ∀ s, C[i]? = some s → s.own = false
theorem hid_set {C : Ct} {j : Nat} : ∀ {vs : List Nat}, j ∉ vs → (hid C vs)[j]? = C[j]?
  | [], _ => rfl
  | i :: vs, h => by
    simp only [List.mem_cons, not_or] at h
    show ((hid C vs).set i .any)[j]? = _
    rw [List.getElem?_set_ne (Ne.symm h.1), hid_set h.2]
theorem Own.hid {σ : L2.St} {vs : List Nat} {q : Addr} (hn : NoOwn C vs) : Own (wipe σ vs) (hid C vs) q ↔ Own σ C q := by
  constructor
  · rintro ⟨i, s, h1, h2, h3⟩
    rcases hid_get h1 with rfl | ⟨g1, g2⟩
    · cases h2
    · exact ⟨i, s, g2, h2, by rw [wipe_get g1] at h3; exact h3⟩
  · rintro ⟨i, s, h1, h2, h3⟩
    have hi : i ∉ vs := fun z => by rw [hn i z s h1] at h2; cases h2
    exact ⟨i, s, by rw [hid_set hi]; exact h1, h2, by rw [wipe_get hi]; exact h3⟩
theorem upd_wipe {σ σ2 : L2.St} {is vs : List Nat} (u : Upd is (wipe σ vs) σ2) (h : ∀ i ∈ is, i ∈ vs) : wipe σ2 vs = wipe σ vs := by
  apply List.ext_getElem?
  intro j
  have hl : σ2.length = σ.length := by rw [u.1, wipe_length]
  by_cases hj : j ∈ vs
  · by_cases hlt : j < σ.length
    · rw [wipe_in hj (by rw [hl]; exact hlt), wipe_in hj hlt]
    · rw [List.getElem?_eq_none (by rw [wipe_length]; omega), List.getElem?_eq_none (by rw [wipe_length]; omega)]
  · rw [wipe_get hj, wipe_get hj, u.2 j (fun z => hj (h j z)), wipe_get hj]
end
end G
/-! G7: list comprehensions. -/
namespace G
open PySem L2
section
variable {X : Cx} {tg iter a b c e elt : Expr} {ifs : List Expr} {scope : Scope} {C C1 C2 C3 C' : Ct} {d d1 d2 d3 : D} {ds ds' : List D} {pos p : Pos} {i j k : Int} {x y : Str} {P : Out → Prop} {rest : List Stmt} {s : Sl} {vs : List Nat}
theorem pg_wpF {B : Blk} : PG (bx X scope B) tg (wpGF (bx X scope) tg) := ⟨fun pins s σ H v u Q I r h => h B pins s u I r⟩
theorem pe_wpF {B : Blk} : PE (bx X scope B) e (wpEF (bx X scope) e) := ⟨fun pins s σ H Q I h => h B pins s I⟩
def wpTsF (X : Cx) (scope : Scope) (ifs : List Expr) : TT := fun σ H Q => ∀ B pins s, Inv (bx X scope B) pins σ H s →
  wpAny (model (bx X scope B).prog (bx X scope B).w) (bx X scope B).A (forIn ifs true fun c r => if r = true then do let ok ← isTrue c (bx X scope B).env (eval c (bx X scope B).env); pure (ForInStep.yield ok) else pure (ForInStep.yield r)) (TP (bx X scope B) pins σ Q) (bx X scope B).xe s
theorem pts_wpF {B : Blk} : PTs (bx X scope B) ifs (wpTsF X scope ifs) := ⟨fun pins s σ H Q I h => h B pins s I⟩
/-- a clause's tests, in a block -/
def GTs (X : Cx) (scope : Scope) (ifs : List Expr) (C : Ct) (b : Bool) (C' : Ct) : Prop := ∀ F H σ, Sat F H σ C → ∀ Q : Bool → Hp → Prop,
  (∀ F' H', Stp F H (Own σ C) F' H' (Own σ C') → Sat F' H' σ C' → Q b H') → wpTsF X scope ifs σ H Q
theorem gts_nil : GTs X scope [] C true C := fun F H σ S Q q B pins s I => (pts_nil (X := bx X scope B)).run pins s σ H Q I (q F H .refl S)
theorem gts_one {k : Bool} (h : ∀ B, GT (bx X scope B) c C k C1) : GTs X scope [c] C k C1 := fun F H σ S Q q B pins s I => (pts_one (X := bx X scope B) pt_wp).run pins s σ H Q I (h B F H σ S Q q)
/-- a turn of a comprehension: nothing, or a value -/
def Turn1 (X : Cx) (scope : Scope) (tg : Expr) (ifs : List Expr) (elt : Expr) (vs : List Nat) (Ci : Ct) (d : D) (o : Option D) (Co : Ct) : Prop :=
  ∃ is Cx k Cx1, (∀ B, GG (bx X scope B) tg is d (hid Ci vs) Cx) ∧ (∀ i ∈ is, i ∈ vs) ∧ GTs X scope ifs Cx k Cx1 ∧
    (k = true → ∃ y Cx2, o = some y ∧ (∀ B, GE (bx X scope B) elt Cx1 y Cx2) ∧ hid Cx2 vs = hid Co vs) ∧ (k = false → o = none ∧ hid Cx1 vs = hid Co vs)
theorem turn_val {is : List Nat} {Cx Cx2 Ci Co : Ct} {y : D} (hg : ∀ B, GG (bx X scope B) tg is d (hid Ci vs) Cx) (he : ∀ B, GE (bx X scope B) elt Cx y Cx2) (hs : ∀ i ∈ is, i ∈ vs := by decide) (hh : hid Cx2 vs = hid Co vs := by rfl) : Turn1 X scope tg [] elt vs Ci d (some y) Co :=
  ⟨is, Cx, true, Cx, hg, hs, gts_nil, fun _ => ⟨y, Cx2, rfl, he, hh⟩, fun z => nomatch z⟩
theorem turn_yes {is : List Nat} {Cx Cx1 Cx2 Ci Co : Ct} {y : D} (hg : ∀ B, GG (bx X scope B) tg is d (hid Ci vs) Cx) (ht : ∀ B, GT (bx X scope B) c Cx true Cx1) (he : ∀ B, GE (bx X scope B) elt Cx1 y Cx2) (hs : ∀ i ∈ is, i ∈ vs := by decide) (hh : hid Cx2 vs = hid Co vs := by rfl) : Turn1 X scope tg [c] elt vs Ci d (some y) Co :=
  ⟨is, Cx, true, Cx1, hg, hs, gts_one ht, fun _ => ⟨y, Cx2, rfl, he, hh⟩, fun z => nomatch z⟩
theorem turn_no {is : List Nat} {Cx Cx1 Ci Co : Ct} (hg : ∀ B, GG (bx X scope B) tg is d (hid Ci vs) Cx) (ht : ∀ B, GT (bx X scope B) c Cx false Cx1) (hs : ∀ i ∈ is, i ∈ vs := by decide) (hh : hid Cx1 vs = hid Co vs := by rfl) : Turn1 X scope tg [c] elt vs Ci d none Co :=
  ⟨is, Cx, false, Cx1, hg, hs, gts_one ht, (fun z => by cases z), fun _ => ⟨rfl, hh⟩⟩
/-- the turns of a comprehension: a value or nothing, the state goes on -/
def lcP {α β π : Type} (f : α → π → Option (Option β × π)) : List α → π → Option (List β × π)
  | [], p => some ([], p)
  | x :: xs, p => match f x p with
    | none => none
    | some (o, p') => match lcP f xs p' with
      | none => none
      | some (ys, p'') => some (o.toList ++ ys, p'')
theorem back_to {F F1 H1 : Hp} {σ : L2.St} {C' : Ct} (hno : NoOwn C' vs) (hb : Sat F1 H1 (wipe σ vs) (hid C' vs)) (e : Ext F F1) (hl : C'.length = σ.length) (hs : ∀ i ∈ vs, ∀ s, C'[i]? = some s → SlOk F1 H1 σ[i]? s) : Sat F1 H1 σ C' := by
  refine ⟨hb.ex, hl, fun i s h => ?_, fun i j s t a h1 h2 h3 h4 h5 h6 => ?_, hb.tb⟩
  · by_cases hi : i ∈ vs
    · exact hs i hi s h
    · have := hb.sl i s (by rw [hid_set hi]; exact h)
      rw [wipe_get hi] at this
      exact this
  · have hi : i ∉ vs := fun z => by rw [hno i z s h1] at h3; cases h3
    have hj : j ∉ vs := fun z => by rw [hno j z t h2] at h4; cases h4
    exact hb.dis i j s t a (by rw [hid_set hi]; exact h1) (by rw [hid_set hj]; exact h2) h3 h4 (by rw [wipe_get hi]; exact h5) (by rw [wipe_get hj]; exact h6)
/-- a slot among vs that isn't one's own keeps its word -/
theorem SlOk.keep {F H F1 H1 : Hp} {ov : Option (Option V)} (h : SlOk F H ov s) (hs : s.own = false) (e : Ext F F1) : SlOk F1 H1 ov s := by
  cases s with
  | any => trivial
  | sh d => obtain ⟨v, h1, h2⟩ := h; exact ⟨v, h1, h2.mono e⟩
  | sp s => obtain ⟨v, h1, h2⟩ := h; exact ⟨v, h1, s.mono e h2⟩
  | _ => cases hs
/-- an object that is in no slot is changed -/
theorem Sat.other {F H : Hp} {σ : L2.St} {L : Addr} {o : HO} (S : Sat F H σ C) (fL : F L = none) (nL : ¬ Own σ C L) (ho : ∀ ps, o ≠ .tbl ps := by intro _ z; cases z) : Sat F (upd H L o) σ C := by
  refine ⟨fun a u q => ?_, S.len, fun i s h => ?_, S.dis, S.tb.upd ho⟩
  · rw [upd_ne (ne_of_none q fL)]; exact S.ex a u q
  · have q := S.sl i s h
    have ne : s.own = true → ∀ a, σ[i]? = some (some (.ref a)) → a ≠ L := fun w a z y => nL ⟨i, s, h, w, y ▸ z⟩
    cases s with
    | any => trivial
    | sh d => exact q
    | ol ds => obtain ⟨a, vs, h1, h2, h3, h4⟩ := q; exact ⟨a, vs, h1, by rw [upd_ne (ne rfl a h1)]; exact h2, h3, h4⟩
    | op a ds => obtain ⟨vs, h1, h2, h3, h4⟩ := q; exact ⟨vs, h1, by rw [upd_ne (ne rfl a h1)]; exact h2, h3, h4⟩
    | sp s => exact q
    | ob s => obtain ⟨a, vs, h1, h2, h3, h4⟩ := q; exact ⟨a, vs, h1, by rw [upd_ne (ne rfl a h1)]; exact h2, h3, h4⟩
theorem Stp.other {F H F1 H1 : Hp} {o o1 : Addr → Prop} {L : Addr} {u : HO} (s : Stp F H o F1 H1 o1) (hL : H L = none) (ho : ∀ ps, u ≠ .tbl ps := by intro _ z; cases z) : Stp F H o F1 (upd H1 L u) o1 :=
  ⟨s.e, (fun a w h n => by
    obtain ⟨h1, h2, h3⟩ := s.k a w h n
    exact ⟨fun hu => by rw [upd_ne (ne_of_none h hL)]; exact h1 hu, h2, h3⟩), (fun a h => by
    by_cases e : a = L
    · subst e; exact hL
    · rw [upd_ne e] at h; exact s.t a h), fun t => (s.tb t).upd ho⟩
theorem Stp.sub {F H F1 H1 : Hp} {o o1 o2 : Addr → Prop} (s : Stp F H o F1 H1 o1) (h : ∀ a, o2 a → o1 a) : Stp F H o F1 H1 o2 :=
  ⟨s.e, (fun a w q n => let ⟨h1, h2, h3⟩ := s.k a w q n; ⟨h1, fun z => h2 (h a z), h3⟩), s.t, s.tb⟩
theorem own_hid1 {σ : L2.St} {q : Addr} (o : Own (wipe σ vs) (hid C vs) q) : Own σ C q := by
  obtain ⟨i, s, h1, h2, h3⟩ := o
  rcases hid_get h1 with rfl | ⟨g1, g2⟩
  · cases h2
  · exact ⟨i, s, g2, h2, by rw [wipe_get g1] at h3; exact h3⟩
theorem lc_main {α β π : Type} {xs : List α} {ε : α → D} {ε' : β → D} {Cp : π → Ct} {f : α → π → Option (Option β × π)} {p0 p1 : π} {ys : List β} (hf : lcP f xs p0 = some (ys, p1)) (hz : xs.length ≤ sizeLine)
    (hi : GI X tg iter C (xs.map ε) (Cp p0)) (hno : ∀ p, NoOwn (Cp p) vs) (hlen : ∀ p, (Cp p).length = (Cp p0).length) (hsame : ∀ p, ∀ i ∈ vs, (Cp p)[i]? = (Cp p0)[i]?)
    (hb : ∀ x ∈ xs, ∀ p o p', f x p = some (o, p') → Turn1 X scope tg ifs elt vs (Cp p) (ε x) (o.map ε') (Cp p'))
    {F H : Hp} {σ : L2.St} (S : Sat F H σ C) {Q : VK} (q : ∀ p vs F' H', Stp F H (Own σ C) F' H' (Own σ (Cp p1)) → Sat F' H' σ (Cp p1) → H p = none → H' p = some (.lst vs) → RA F' vs (ys.map ε') → F' p = none → ¬ Own σ (Cp p1) p → Q (.ref p) H') :
    tLc (wpI X tg iter) (wpGF (bx X scope) tg) (wpTsF X scope ifs) (wpEF (bx X scope) elt) vs σ H Q := by
  refine hi F H σ S _ fun J F1 H1 s1 S1 Y => ?_
  intro L hL
  have hL0 : H L = none := s1.t L hL
  have yl : (xs.map ε).length = xs.length := List.length_map ..
  refine ⟨fun i m H2 => m = xs.length - i ∧ i ≤ xs.length ∧ ∃ p zs ws acc F2, lcP f (xs.drop i) p = some (zs, p1) ∧ ys = ws ++ zs ∧ ws.length ≤ i ∧ H2 L = some (.lst acc) ∧ RA F2 acc (ws.map ε') ∧ F2 L = none ∧ (¬ Own σ (Cp p) L) ∧
    Stp F1 H1 (Own σ (Cp p0)) F2 H2 (Own σ (Cp p)) ∧ Sat F2 H2 σ (Cp p), ?_, ?_⟩
  · have x : XS F1 H1 F1 (upd H1 L (.lst [])) := XS.fresh S1.ex hL
    exact ⟨_, rfl, Nat.zero_le _, p0, ys, [], [], F1, hf, rfl, Nat.le_refl _, upd_same, .nil, S1.ex.free hL, own_new S1 hL, x.stp, S1.xs x⟩
  rintro i m H2 ⟨rfl, hil, p, zs, ws, acc, F2, hm, hys, hws, hL2, ra, fL, nL, st, S2⟩
  by_cases hlt : i < xs.length
  · refine .inr ⟨Y.go i H2 F2 st.e S2.ex (by rw [yl]; exact hlt), ?_⟩
    rw [List.drop_eq_getElem_cons hlt] at hm
    unfold lcP at hm
    cases hfx : f xs[i] p with
    | none => rw [hfx] at hm; cases hm
    | some r =>
      obtain ⟨o, p'⟩ := r
      rw [hfx] at hm
      cases hrest : lcP f (xs.drop (i + 1)) p' with
      | none => simp only [hrest] at hm; cases hm
      | some r2 =>
        obtain ⟨zs', p''⟩ := r2
        simp only [hrest] at hm
        have hm' := Option.some.inj hm
        have ez : zs = o.toList ++ zs' := (congrArg Prod.fst hm').symm
        have ep : p'' = p1 := congrArg Prod.snd hm'
        subst ep ez
        refine ⟨fun H' => ∃ ws' acc' F', ys = ws' ++ zs' ∧ ws'.length ≤ i + 1 ∧ H' L = some (.lst acc') ∧ RA F' acc' (ws'.map ε') ∧ F' L = none ∧ (¬ Own σ (Cp p') L) ∧ Stp F1 H1 (Own σ (Cp p0)) F' H' (Own σ (Cp p')) ∧ Sat F' H' σ (Cp p'), ?_, ?_⟩
        · rintro H' ⟨ws', acc', F', e1, e2, e3, e4, e5, e6, e7, e8⟩
          exact ⟨xs.length - (i + 1), by omega, rfl, hlt, p', zs', ws', acc', F', hrest, e1, e2, e3, e4, e5, e6, e7, e8⟩
        · intro v H' y
          obtain ⟨F3, x3, r3⟩ := Y.yld i H2 F2 v H' st.e S2.ex y
          have r3 := r3 (ε xs[i]) (by rw [List.getElem?_map, List.getElem?_eq_getElem hlt]; rfl)
          have S3 := (S2.xs x3).hid (vs := vs)
          have hmem : xs[i] ∈ xs := List.getElem_mem hlt
          obtain ⟨is, Cx, k, Cx1, hg, his, ht, hy, hn⟩ := hb _ hmem p o p' hfx
          have st3 : Stp F1 H1 (Own σ (Cp p0)) F3 H' (Own (wipe σ vs) (hid (Cp p) vs)) := (st.trans x3.stp).sub fun a o => own_hid1 o
          have nL3 : ¬ Own (wipe σ vs) (hid (Cp p) vs) L := fun o => nL (own_hid1 o)
          have hL3 : H' L = some (.lst acc) := x3.h _ _ hL2 (by intro _ z; cases z)
          have fL3 : F3 L = none := x3.n _ _ hL2 fL
          -- the end of a turn
          have fin : ∀ {σ4 : L2.St} {F5 H5 : Hp} {Cy : Ct}, Upd is (wipe σ vs) σ4 → hid Cy vs = hid (Cp p') vs → Stp F3 H' (Own (wipe σ vs) (hid (Cp p) vs)) F5 H5 (Own σ4 Cy) → Sat F5 H5 σ4 Cy →
              H5 L = some (.lst acc) ∧ F5 L = none ∧ (¬ Own σ (Cp p') L) ∧ Stp F1 H1 (Own σ (Cp p0)) F5 H5 (Own σ (Cp p')) ∧ Sat F5 H5 σ (Cp p') ∧ Ext F2 F5 := fun {σ4 F5 H5 Cy} u hh s5 S5 => by
            have ew := upd_wipe u his
            obtain ⟨g1, g2, g3⟩ := s5.k L _ hL3 nL3
            have g1 := g1 (by intro _ z; cases z)
            have toOwn : ∀ a, Own σ (Cp p') a → Own σ4 Cy a := fun a o => by
              have o' := (Own.hid (vs := vs) (hno p')).mpr o
              rw [← hh, ← ew] at o'
              exact own_hid1 o'
            have S6 := S5.hid (vs := vs)
            rw [ew, hh] at S6
            refine ⟨g1, g3 fL3, fun o => g2 (toOwn L o), (st3.trans s5).sub toOwn, back_to (hno p') S6 s5.e (by rw [hlen, ← hlen p]; exact S2.len) fun j hj s hs => ?_, x3.f.trans s5.e⟩
            have hs0 : (Cp p)[j]? = some s := by rw [hsame p j hj, ← hsame p' j hj]; exact hs
            exact (S2.sl j s hs0).keep (hno p j hj s hs0) (x3.f.trans s5.e)
          intro B
          refine hg B F3 H' (wipe σ vs) v S3 r3 _ fun σ4 u4 s4 S4 => ?_
          refine ⟨upd_wipe u4 his, ?_⟩
          refine ht F3 H' σ4 S4 _ fun F5 H5 s5 S5 => ?_
          cases k with
          | false =>
            obtain ⟨eo, hh⟩ := hn rfl
            have eo : o = none := by
              cases o with
              | none => rfl
              | some _ => cases eo
            subst eo
            obtain ⟨g1, g2, g3, g4, g5, g6⟩ := fin u4 hh (s4.trans s5) S5
            exact iteF ⟨ws, acc, F5, hys, by omega, g1, ra.mono g6, g2, g3, g4, g5⟩
          | true =>
            obtain ⟨y, Cx2, eo, he, hh⟩ := hy rfl
            cases o with
            | none => cases eo
            | some z =>
              have ey : ε' z = y := Option.some.inj eo
              refine iteT ?_
              intro B
              refine he B F5 H5 σ4 S5 _ fun vy F6 H6 s6 S6 r6 => ?_
              obtain ⟨g1, g2, g3, g4, g5, g6⟩ := fin u4 hh ((s4.trans s5).trans s6) S6
              have hacc : acc.length < sizeLine := by
                have := ra.length
                rw [List.length_map] at this
                omega
              refine ⟨acc, g1, hacc, ws ++ [z], acc ++ [vy], F6, by rw [hys]; simp, by simp; omega, upd_same, ?_, g2, g3, g4.other hL, g5.other g2 g3⟩
              rw [List.map_append]
              exact (ra.mono g6).snoc (by rw [ey]; exact r6)
  · have e : i = xs.length := by omega
    subst e
    rw [List.drop_length] at hm
    cases hm
    refine .inl ⟨?_, ?_⟩
    · rw [← yl]
      exact Y.stop H2 F2 st.e S2.ex
    · refine q L acc F2 H2 (s1.trans st) S2 hL0 hL2 ?_ fL nL
      rw [hys, List.append_nil]; exact ra
variable {own : List (Str × Nat)}
/-- as a value; the state p goes on through the turns -/
theorem g_lcP {α β π : Type} {xs : List α} {ε : α → D} {ε' : β → D} {Cp : π → Ct} {f : α → π → Option (Option β × π)} {p0 p1 : π} {ys : List β} (hf : lcP f xs p0 = some (ys, p1)) (hz : xs.length ≤ sizeLine) (hc : X.calm = true) (hN : X.N.Nodup) (ok : BlkOk X.N X.env.scope scope own)
    (hi : GI X tg iter C (xs.map ε) (Cp p0)) (hno : ∀ p, NoOwn (Cp p) (own.map (·.2))) (hlen : ∀ p, (Cp p).length = (Cp p0).length) (hsame : ∀ p, ∀ i ∈ own.map (·.2), (Cp p)[i]? = (Cp p0)[i]?)
    (hb : ∀ x ∈ xs, ∀ p o p', f x p = some (o, p') → Turn1 X scope tg ifs elt (own.map (·.2)) (Cp p) (ε x) (o.map ε') (Cp p')) (hs : ∀ x, foldedSetIterable iter X.env x = pure x := by intro _; rfl) :
    GL X (.ListComp elt [⟨tg, iter, ifs, 0⟩] scope pos) C (ys.map ε') (Cp p1) := fun F H σ S Q q =>
  wpE_of (pe_lc hc hN pi_wp ok (fun s H C cl fp => pg_wpF (B := ⟨s, H, C, cl, fp⟩)) (fun s H C cl fp => pts_wpF (B := ⟨s, H, C, cl, fp⟩)) (fun s H C cl fp => pe_wpF (B := ⟨s, H, C, cl, fp⟩)) hs) (lc_main hf hz hi hno hlen hsame hb S q)
/-- name = [..] on one line, the name a local -/
theorem gs_setLcP {α β π : Type} (i : Nat) {y : Str} {py spos : Pos} {xs : List α} {ε : α → D} {ε' : β → D} {Cp : π → Ct} {f : α → π → Option (Option β × π)} {p0 p1 : π} {ys : List β} (hf : lcP f xs p0 = some (ys, p1)) (hz : xs.length ≤ sizeLine) (hc : X.calm = true) (hN : X.N.Nodup) (ok : BlkOk X.N X.env.scope scope own)
    (hi : GI X tg iter C (xs.map ε) (Cp p0)) (hno : ∀ p, NoOwn (Cp p) (own.map (·.2))) (hlen : ∀ p, (Cp p).length = (Cp p0).length) (hsame : ∀ p, ∀ i ∈ own.map (·.2), (Cp p)[i]? = (Cp p0)[i]?)
    (hb : ∀ x ∈ xs, ∀ p o p', f x p = some (o, p') → Turn1 X scope tg ifs elt (own.map (·.2)) (Cp p) (ε x) (o.map ε') (Cp p')) (hr : GS X rest ((Cp p1).set i (.ol (ys.map ε'))) P) (hl : i < (Cp p1).length := by exact Nat.le_of_ble_eq_true rfl)
    (hy : X.N[i]? = some y := by rfl) (hyl : X.env.scope.names.lookup y = some .local := by rfl) (hsw : swapsWith (.ListComp elt [⟨tg, iter, ifs, 0⟩] scope pos) (some (.Name y py)) spos.line X.env = pure true := by first | exact sw_true rfl rfl rfl (by decide +kernel)) (hs : ∀ x, foldedSetIterable iter X.env x = pure x := by intro _; rfl) :
    GS X (.Assign [.Name y py] (.ListComp elt [⟨tg, iter, ifs, 0⟩] scope pos) spos :: rest) C P := fun F H σ D' S q => by
  refine wpSs_of (pss_cons (ps_setLc hc hN hy hyl hsw pi_wp ok (fun s H C cl fp => pg_wpF (B := ⟨s, H, C, cl, fp⟩)) (fun s H C cl fp => pts_wpF (B := ⟨s, H, C, cl, fp⟩)) (fun s H C cl fp => pe_wpF (B := ⟨s, H, C, cl, fp⟩)) hs) pss_wp) ?_
  show tLc (wpI X tg iter) (wpGF (bx X scope) tg) (wpTsF X scope ifs) (wpEF (bx X scope) elt) (own.map (·.2)) σ H (fun x H1 => gName i x σ H1 (wpSs X rest D'))
  refine lc_main hf hz hi hno hlen hsame hb S fun p vs F1 H1 s1 S1 h1 h2 h3 h4 h5 => ?_
  exact hr F1 H1 _ D' (S1.asg hl ⟨p, vs, rfl, h2, h3, h4⟩ fun _ a e => by cases e; exact own_any h5) fun o ho => (q o ho).step (s1.ol h1)
/-! ### without a state -/
def lcF {α β : Type} (f : α → Option (Option β)) : List α → Option (List β)
  | [] => some []
  | x :: xs => match f x with
    | none => none
    | some o => match lcF f xs with
      | none => none
      | some ys => some (o.toList ++ ys)
theorem lcP_of {α β : Type} {f : α → Option (Option β)} : ∀ {xs : List α} {ys : List β}, lcF f xs = some ys → lcP (fun x (_ : Unit) => (f x).map fun o => (o, ())) xs () = some (ys, ())
  | [], ys, h => by cases h; rfl
  | x :: xs, ys, h => by
    unfold lcF at h
    unfold lcP
    cases hx : f x with
    | none => rw [hx] at h; cases h
    | some o =>
      rw [hx] at h
      cases hr : lcF f xs with
      | none => simp only [hr] at h; cases h
      | some zs =>
        simp only [hr] at h
        cases h
        simp only [Option.map_some, lcP_of hr]
theorem g_lc {α β : Type} {xs : List α} {ε : α → D} {ε' : β → D} {f : α → Option (Option β)} {ys : List β} (hf : lcF f xs = some ys) (hz : xs.length ≤ sizeLine) (hc : X.calm = true) (hN : X.N.Nodup) (ok : BlkOk X.N X.env.scope scope own)
    (hi : GI X tg iter C (xs.map ε) C1) (hno : NoOwn C1 (own.map (·.2)))
    (hb : ∀ x ∈ xs, ∀ o, f x = some o → Turn1 X scope tg ifs elt (own.map (·.2)) C1 (ε x) (o.map ε') C1) (hs : ∀ x, foldedSetIterable iter X.env x = pure x := by intro _; rfl) :
    GL X (.ListComp elt [⟨tg, iter, ifs, 0⟩] scope pos) C (ys.map ε') C1 :=
  g_lcP (Cp := fun _ => C1) (lcP_of hf) hz hc hN ok hi (fun _ => hno) (fun _ => rfl) (fun _ _ _ => rfl) (fun x hx p o p' h => by
    cases hfx : f x with
    | none => rw [hfx] at h; cases h
    | some o' => rw [hfx] at h; cases h; exact hb x hx _ hfx) hs
theorem gs_setLc {α β : Type} (i : Nat) {y : Str} {py spos : Pos} {xs : List α} {ε : α → D} {ε' : β → D} {f : α → Option (Option β)} {ys : List β} (hf : lcF f xs = some ys) (hz : xs.length ≤ sizeLine) (hc : X.calm = true) (hN : X.N.Nodup) (ok : BlkOk X.N X.env.scope scope own)
    (hi : GI X tg iter C (xs.map ε) C1) (hno : NoOwn C1 (own.map (·.2)))
    (hb : ∀ x ∈ xs, ∀ o, f x = some o → Turn1 X scope tg ifs elt (own.map (·.2)) C1 (ε x) (o.map ε') C1) (hr : GS X rest (C1.set i (.ol (ys.map ε'))) P) (hl : i < C1.length := by exact Nat.le_of_ble_eq_true rfl)
    (hy : X.N[i]? = some y := by rfl) (hyl : X.env.scope.names.lookup y = some .local := by rfl) (hsw : swapsWith (.ListComp elt [⟨tg, iter, ifs, 0⟩] scope pos) (some (.Name y py)) spos.line X.env = pure true := by first | exact sw_true rfl rfl rfl (by decide +kernel)) (hs : ∀ x, foldedSetIterable iter X.env x = pure x := by intro _; rfl) :
    GS X (.Assign [.Name y py] (.ListComp elt [⟨tg, iter, ifs, 0⟩] scope pos) spos :: rest) C P :=
  gs_setLcP i (Cp := fun _ => C1) (lcP_of hf) hz hc hN ok hi (fun _ => hno) (fun _ => rfl) (fun _ _ _ => rfl) (fun x hx p o p' h => by
    cases hfx : f x with
    | none => rw [hfx] at h; cases h
    | some o' => rw [hfx] at h; cases h; exact hb x hx _ hfx) hr hl hy hyl hsw hs
end
end G
/-! G8: defs: their promises, their bodies, their calls. -/
namespace G
open PySem L2 PyProof.Rows
/-! ### promises -/
/-- n arguments that stay; a value that stays -/
def spF (n : Nat) (M : List D → D → Prop) : Sp := fun vs H Q _ => ∃ F ds d, vs.length = n ∧ Ex2 F H ∧ RA F vs ds ∧ M ds d ∧ ∀ v F' H', XS F H F' H' → R F' v d → Q v H'
/-- .. a new list -/
def spN (n : Nat) (M : List D → List D → Prop) : Sp := fun vs H Q _ => ∃ F ds es, vs.length = n ∧ Ex2 F H ∧ RA F vs ds ∧ M ds es ∧ ∀ p us F' H', XS F H F' H' → H p = none → H' p = some (.lst us) → F' p = none → RA F' us es → Q (.ref p) H'
/-- the first one is a list that is changed -/
def spP (n : Nat) (M : List D → List D → D → List D → Prop) : Sp := fun vs H Q _ => ∃ F p us ps pd ds d pd', vs = .ref p :: us ∧ vs.length = n ∧ Ex2 F H ∧ H p = some (.lst ps) ∧ RA F ps pd ∧ F p = none ∧ RA F us ds ∧ M pd ds d pd' ∧
  ∀ v F' H' ps', Ext F F' → Ext F' H' → (∀ a u, a ≠ p → H a = some u → ((∀ ps, u ≠ .tbl ps) → H' a = some u) ∧ (F a = none → F' a = none)) → (∀ a, H' a = none → H a = none) → (TbOk F H → TbOk F' H') → H' p = some (.lst ps') → RA F' ps' pd' → F' p = none → R F' v d → Q v H'
abbrev Cx0 (P : Program) (w : World) (K : PySem.W.Frag) (mg : Str → Option Value) (base : Heap) (N : List Str) (qual : Str) (scope : Scope) (f : Addr) (cdv : Value) (A : Around) (outer : List Env) (s : Shared) (H : Hp) (E : XK) : Cx := (cxOf CX0 P w K mg base N qual scope f cdv A outer s H E).nox
abbrev FnP (K : PySem.W.Frag) (x : Str) (st : Stmt) (f : Addr) (fd : FuncData) : Prop := FunD K x x (defArgs st) (defBody st) (defScope st) [] [] f fd
/-- the slots at a def's entry -/
def C0 (N : List Str) (ds : List D) : Ct := ds.map .sh ++ List.replicate (N.length - ds.length) .any
section
variable {cs : List (Addr × Addr)} {P : Program} {w : World} {K : PySem.W.Frag} {mg : Str → Option Value} {base : Heap} {x : Str} {st : Stmt} {f : Addr} {fd : FuncData} {N ps : List Str} {k n : Nat}
theorem startLen {N : List Str} {vs : List V} (h : vs.length ≤ N.length) : (L2.start N vs).length = N.length := by
  unfold L2.start
  rw [List.length_append, List.length_map, List.length_replicate]
  omega
theorem sat_start {F H : Hp} {vs : List V} {ds : List D} (e : Ex2 F H) (r : RA F vs ds) (h : vs.length ≤ N.length) : Sat F H (L2.start N vs) (C0 N ds) := by
  have hl := r.length
  have noown : ∀ (i : Nat) (s : Sl), (C0 N ds)[i]? = some s → s.own = false := fun i s h => by
    unfold C0 at h
    by_cases hi : i < (ds.map Sl.sh).length
    · rw [List.getElem?_append_left hi, List.getElem?_map] at h
      cases q : ds[i]? with
      | none => rw [q] at h; cases h
      | some d => rw [q] at h; cases h; rfl
    · rw [List.getElem?_append_right (by omega)] at h
      have := List.mem_of_getElem? h
      rw [List.mem_replicate] at this
      rw [this.2]; rfl
  refine ⟨e.ex, ?_, fun i s h => ?_, (fun i j s t a h1 h2 h3 => by rw [noown i s h1] at h3; cases h3), e.tb⟩
  · unfold C0 L2.start
    rw [List.length_append, List.length_append, List.length_map, List.length_map, List.length_replicate, List.length_replicate, hl]
  · unfold C0 at h
    by_cases hi : i < ds.length
    · rw [List.getElem?_append_left (by rw [List.length_map]; exact hi), List.getElem?_map] at h
      cases q : ds[i]? with
      | none => rw [q] at h; cases h
      | some d =>
        rw [q] at h; cases h
        obtain ⟨v, h1, h2⟩ := r.get q
        refine ⟨v, ?_, h2⟩
        unfold L2.start
        rw [List.getElem?_append_left (by rw [List.length_map, hl]; exact hi), List.getElem?_map, h1]
        rfl
    · rw [List.getElem?_append_right (by rw [List.length_map]; omega)] at h
      have := List.mem_of_getElem? h
      rw [List.mem_replicate] at this
      rw [this.2]
      trivial
theorem no_own_start {ds : List D} {vs : List V} {a : Addr} : ¬ Own (L2.start N vs) (C0 N ds) a := fun ⟨i, s, h, h2, _⟩ => by
  unfold C0 at h
  by_cases hi : i < (ds.map Sl.sh).length
  · rw [List.getElem?_append_left hi, List.getElem?_map] at h
    cases q : ds[i]? with
    | none => rw [q] at h; cases h
    | some d => rw [q] at h; cases h; cases h2
  · rw [List.getElem?_append_right (by omega)] at h
    have := List.mem_of_getElem? h
    rw [List.mem_replicate] at this
    rw [this.2] at h2; cases h2
theorem Stp.xs {F H F' H' : Hp} {o o' : Addr → Prop} (s : Stp F H o F' H' o') (h : ∀ a, ¬ o a) (e : Ext F' H') : XS F H F' H' :=
  ⟨s.e, fun a u q => (s.k a u q (h a)).1, e, fun a u q => (s.k a u q (h a)).2.2, s.t, s.tb⟩
/-- a def that gives a value that stays -/
theorem ok_fn {M : List D → D → Prop} (F : FnP K x st f fd) (S : FnScope N ps (defScope st)) (hn : ps.length = n) (hN : n ≤ N.length)
    (hb : ∀ (cdv : Value) (A : Around) (outer : List Env) (s : Shared) (H : Hp) (E : XK), RoomG k (A.deeper (envOfC x (defScope st) s.heap.objs.size f cdv)) → TbIn cs H → ∀ ds d, M ds d → ds.length = n →
      GS (Cx0 P w K mg base N x (defScope st) f cdv A outer s H E) (defBody st) (C0 N ds) (fun o => ∃ C', o = .rt d C')) : FnOkG cs P w K mg base CX0 (k + 1) f fd ps (spF n M) := by
  refine funD_okG F S (fun vs H Q E h => ?_) (fun cdv A outer s H vs Q E hr ht _ h => ⟨_, PSs.nox pss_wp, ?_⟩)
  · obtain ⟨_, _, _, h, _⟩ := h
    rw [h, hn]
  · obtain ⟨F0, ds, d, hl, e, r, hM, q⟩ := h
    refine hb cdv A outer s H E hr ht ds d hM (by rw [← r.length, hl]) F0 H (L2.start N vs) _ (sat_start e r (by rw [hl]; exact hN)) fun o ho => ?_
    obtain ⟨C', rfl⟩ := ho
    exact fun v F' H' σ' s1 S1 r1 => q v F' H' (s1.xs (fun a => no_own_start) S1.ex) r1
/-- .. a new list -/
theorem ok_fnN {M : List D → List D → Prop} (F : FnP K x st f fd) (S : FnScope N ps (defScope st)) (hn : ps.length = n) (hN : n ≤ N.length)
    (hb : ∀ (cdv : Value) (A : Around) (outer : List Env) (s : Shared) (H : Hp) (E : XK), RoomG k (A.deeper (envOfC x (defScope st) s.heap.objs.size f cdv)) → TbIn cs H → ∀ ds es, M ds es → ds.length = n →
      GS (Cx0 P w K mg base N x (defScope st) f cdv A outer s H E) (defBody st) (C0 N ds) (fun o => ∃ C', o = .rn es C')) : FnOkG cs P w K mg base CX0 (k + 1) f fd ps (spN n M) := by
  refine funD_okG F S (fun vs H Q E h => ?_) (fun cdv A outer s H vs Q E hr ht _ h => ⟨_, PSs.nox pss_wp, ?_⟩)
  · obtain ⟨_, _, _, h, _⟩ := h
    rw [h, hn]
  · obtain ⟨F0, ds, es, hl, e, r, hM, q⟩ := h
    refine hb cdv A outer s H E hr ht ds es hM (by rw [← r.length, hl]) F0 H (L2.start N vs) _ (sat_start e r (by rw [hl]; exact hN)) fun o ho => ?_
    obtain ⟨C', rfl⟩ := ho
    exact fun p us F' H' σ' s1 S1 h1 h2 h3 h4 h5 => q p us F' H' (s1.xs (fun a => no_own_start) S1.ex) h1 h2 h4 h3
/-- .. its code object is known -/
theorem ok_fnC {M : List D → D → Prop} {c0 : Addr} (F : FnP K x st f fd) (S : FnScope N ps (defScope st)) (hn : ps.length = n) (hN : n ≤ N.length) (hC : ∀ (p : Obj) (fd' : FuncData) (c : Addr), K.lookup f = some p → p.data = .func fd' → fd'.code = .ref c → c = c0)
    (hb : ∀ (cdv : Value) (A : Around) (outer : List Env) (s : Shared) (H : Hp) (E : XK), cdv = .ref c0 → RoomG k (A.deeper (envOfC x (defScope st) s.heap.objs.size f cdv)) → TbIn cs H → ∀ ds d, M ds d → ds.length = n →
      GS (Cx0 P w K mg base N x (defScope st) f cdv A outer s H E) (defBody st) (C0 N ds) (fun o => ∃ C', o = .rt d C')) : FnOkG cs P w K mg base CX0 (k + 1) f fd ps (spF n M) := by
  refine funD_okG F S (fun vs H Q E h => ?_) (fun cdv A outer s H vs Q E hr ht hcc h => ⟨_, PSs.nox pss_wp, ?_⟩)
  · obtain ⟨_, _, _, h, _⟩ := h
    rw [h, hn]
  · obtain ⟨F0, ds, d, hl, e, r, hM, q⟩ := h
    obtain ⟨c, p, fd', rfl, lk, hd, hc⟩ := hcc
    refine hb (.ref c) A outer s H E (by rw [hC p fd' c lk hd hc]) hr ht ds d hM (by rw [← r.length, hl]) F0 H (L2.start N vs) _ (sat_start e r (by rw [hl]; exact hN)) fun o ho => ?_
    obtain ⟨C', rfl⟩ := ho
    exact fun v F' H' σ' s1 S1 r1 => q v F' H' (s1.xs (fun a => no_own_start) S1.ex) r1
theorem sat_startP {F H : Hp} {p : Addr} {us : List V} {qs : List V} {pd ds : List D} (e : Ex2 F H) (hp : H p = some (.lst qs)) (rp : RA F qs pd) (fp : F p = none) (r : RA F us ds) (h : us.length + 1 ≤ N.length) :
    Sat F H (L2.start N (.ref p :: us)) (.op p pd :: (C0 N (.none :: ds)).tail) := by
  have hl := r.length
  have e1 : (C0 N (.none :: ds)).tail = ds.map .sh ++ List.replicate (N.length - (ds.length + 1)) .any := rfl
  have noown : ∀ (i : Nat) (s : Sl), (C0 N (.none :: ds)).tail[i]? = some s → s.own = false := fun i s h => by
    rw [e1] at h
    by_cases hi : i < (ds.map Sl.sh).length
    · rw [List.getElem?_append_left hi, List.getElem?_map] at h
      cases q : ds[i]? with
      | none => rw [q] at h; cases h
      | some d => rw [q] at h; cases h; rfl
    · rw [List.getElem?_append_right (by omega)] at h
      have := List.mem_of_getElem? h
      rw [List.mem_replicate] at this
      rw [this.2]; rfl
  refine ⟨e.ex, ?_, fun i s h => ?_, fun i j s t a h1 h2 h3 h4 h5 h6 => ?_, e.tb⟩
  · rw [e1]
    unfold L2.start
    simp only [List.length_cons, List.length_append, List.length_map, List.length_replicate, hl]
    omega
  · cases i with
    | zero =>
      have : Sl.op p pd = s := Option.some.inj h
      subst this
      exact ⟨qs, rfl, hp, rp, fp⟩
    | succ i =>
      have h : (C0 N (.none :: ds)).tail[i]? = some s := h
      rw [e1] at h
      show SlOk F H (us.map some ++ List.replicate (N.length - (us.length + 1)) none)[i]? s
      by_cases hi : i < ds.length
      · rw [List.getElem?_append_left (by rw [List.length_map]; exact hi), List.getElem?_map] at h
        cases q : ds[i]? with
        | none => rw [q] at h; cases h
        | some d =>
          rw [q] at h; cases h
          obtain ⟨v, h1, h2⟩ := r.get q
          refine ⟨v, ?_, h2⟩
          rw [List.getElem?_append_left (by rw [List.length_map, hl]; exact hi), List.getElem?_map, h1]
          rfl
      · rw [List.getElem?_append_right (by rw [List.length_map]; omega)] at h
        have := List.mem_of_getElem? h
        rw [List.mem_replicate] at this
        rw [this.2]
        trivial
  · cases i with
    | zero => cases j with
      | zero => rfl
      | succ j => rw [noown j t h2] at h4; cases h4
    | succ i => rw [noown i s h1] at h3; cases h3
theorem own_startP {p : Addr} {us : List V} {pd ds : List D} {a : Addr} (o : Own (L2.start N (.ref p :: us)) (.op p pd :: (C0 N (.none :: ds)).tail) a) : a = p := by
  obtain ⟨i, s, h, h2, h3⟩ := o
  cases i with
  | zero => exact (V.ref.inj (Option.some.inj (Option.some.inj h3))).symm
  | succ i =>
    have h : (ds.map Sl.sh ++ List.replicate (N.length - (ds.length + 1)) .any)[i]? = some s := h
    by_cases hi : i < (ds.map Sl.sh).length
    · rw [List.getElem?_append_left hi, List.getElem?_map] at h
      cases q : ds[i]? with
      | none => rw [q] at h; cases h
      | some d => rw [q] at h; cases h; cases h2
    · rw [List.getElem?_append_right (by omega)] at h
      have := List.mem_of_getElem? h
      rw [List.mem_replicate] at this
      rw [this.2] at h2; cases h2
/-- a def that changes the list handed in -/
theorem ok_fnP {M : List D → List D → D → List D → Prop} (F : FnP K x st f fd) (S : FnScope N ps (defScope st)) (hn : ps.length = n) (hN : n ≤ N.length)
    (hb : ∀ (cdv : Value) (A : Around) (outer : List Env) (s : Shared) (H : Hp) (E : XK), RoomG k (A.deeper (envOfC x (defScope st) s.heap.objs.size f cdv)) → TbIn cs H → ∀ p pd ds d pd', M pd ds d pd' → ds.length + 1 = n →
      GS (Cx0 P w K mg base N x (defScope st) f cdv A outer s H E) (defBody st) (.op p pd :: (C0 N (.none :: ds)).tail) (fun o => ∃ C', o = .rt d C' ∧ C'[0]? = some (.op p pd'))) : FnOkG cs P w K mg base CX0 (k + 1) f fd ps (spP n M) := by
  refine funD_okG F S (fun vs H Q E h => ?_) (fun cdv A outer s H vs Q E hr ht _ h => ⟨_, PSs.nox pss_wp, ?_⟩)
  · obtain ⟨_, _, _, _, _, _, _, _, _, h, _⟩ := h
    rw [h, hn]
  · obtain ⟨F0, p, us, qs, pd, ds, d, pd', rfl, hl, e, hp, rp, fp, r, hM, q⟩ := h
    have hl' : us.length + 1 = n := hl
    refine hb cdv A outer s H E hr ht p pd ds d pd' hM (by rw [← r.length, hl']) F0 H (L2.start N (.ref p :: us)) _ (sat_startP e hp rp fp r (by rw [hl']; exact hN)) fun o ho => ?_
    obtain ⟨C', rfl, hC⟩ := ho
    intro v F' H' σ' s1 S1 r1
    obtain ⟨qs', g1, g2, g3, g4⟩ := S1.sl 0 _ hC
    exact q v F' H' qs' s1.e S1.ex (fun a u ne h => let z := s1.k a u h fun o => ne (own_startP o); ⟨z.1, z.2.2⟩) s1.t s1.tb g2 g3 g4 r1
end
/-! ### calls -/
section
variable {cs : List (Addr × Addr)} {X : Cx} {a e : Expr} {es : List Expr} {C C1 : Ct} {d : D} {ds : List D} {pos p : Pos} {x y : Str} {j k n : Nat} {s s1 : Sl}
theorem g_call {M : List D → D → Prop} (c : CalG cs X.prog X.w X.K X.mg X.base k x (spF n M) []) (hr : RoomG j X.A) (ht : TbIn cs X.H_0) (hM : M ds d) (ha : GA X (e :: es) C ds C1) (hn : ds.length = n := by rfl) (hk : k ≤ j := by decide) (hg : Gl X x := by rfl)
    (hdb : (x == ("__debug__" : Str)) = false := by decide) (he : starEach (e :: es) X.env = (false, eval e X.env) :: starEach es X.env := by rfl) (hpl : (backTo pos (starEach es X.env)).any (·.1) = false := by rfl) :
    GE X (.Call (.Name x p) (e :: es) [] pos) C d C1 := fun F H σ S Q q => by
  refine wpE_of (pe_cG c hr ht hk hg pa_wp hdb he hpl) ?_
  refine ha F H σ S _ fun vs F1 H1 s1 S1 r1 => ⟨F1, ds, d, ?_, S1.e2, ?_, hM, fun v F' H' x r => q v F' H' (s1.trans x.stp) (S1.xs x) r⟩
  · rw [List.append_nil, r1.length, hn]
  · rw [List.append_nil]; exact r1
theorem g_callN {es' : List D} {M : List D → List D → Prop} (c : CalG cs X.prog X.w X.K X.mg X.base k x (spN n M) []) (hr : RoomG j X.A) (ht : TbIn cs X.H_0) (hM : M ds es') (ha : GA X (e :: es) C ds C1) (hn : ds.length = n := by rfl) (hk : k ≤ j := by decide) (hg : Gl X x := by rfl)
    (hdb : (x == ("__debug__" : Str)) = false := by decide) (he : starEach (e :: es) X.env = (false, eval e X.env) :: starEach es X.env := by rfl) (hpl : (backTo pos (starEach es X.env)).any (·.1) = false := by rfl) :
    GL X (.Call (.Name x p) (e :: es) [] pos) C es' C1 := fun F H σ S Q q => by
  refine wpE_of (pe_cG c hr ht hk hg pa_wp hdb he hpl) ?_
  refine ha F H σ S _ fun vs F1 H1 s1 S1 r1 => ⟨F1, ds, es', ?_, S1.e2, ?_, hM, fun p us F' H' x h1 h2 h3 h4 => q p us F' H' (s1.trans x.stp) (S1.xs x) (s1.t p h1) h2 h4 h3 fun o => ?_⟩
  · rw [List.append_nil, r1.length, hn]
  · rw [List.append_nil]; exact r1
  · obtain ⟨⟨u, z⟩, _⟩ := o.at S1
    rw [h1] at z; cases z
/-- f(pool, ..) -/
theorem g_callP (i : Nat) {pp : Pos} {pd pd' : List D} {M : List D → List D → D → List D → Prop} (c : CalG cs X.prog X.w X.K X.mg X.base k x (spP n M) []) (hr : RoomG j X.A) (ht : TbIn cs X.H_0) (hC : C[i]? = some s) (hs : s.ls.isSome = true) (ha : GA X es C ds C1) (hC1 : C1[i]? = some s1) (hs1 : s1.ls = some pd) (hM : M pd ds d pd') (hn : ds.length + 1 = n := by rfl)
    (hk : k ≤ j := by decide) (hg : Gl X x := by rfl) (hN : X.N[i]? = some y := by rfl) (hv : Vis X.env.scope y := by first | exact Or.inl rfl | exact Or.inr (Or.inl rfl) | exact Or.inr (Or.inr rfl)) (hd : (y == ("__debug__" : Str)) = false := by decide) (hcd : (y == ("__classdict__" : Str)) = false := by decide)
    (hdb : (x == ("__debug__" : Str)) = false := by decide) (he : starEach (.Name y pp :: es) X.env = (false, eval (.Name y pp) X.env) :: starEach es X.env := by rfl) (hpl : (backTo pos (starEach es X.env)).any (·.1) = false := by rfl) :
    GE X (.Call (.Name x p) (.Name y pp :: es) [] pos) C d (C1.set i (s1.wl pd')) := fun F H σ S Q q => by
  refine wpE_of (pe_cG c hr ht hk hg (pa_cons (pe_var hN hv hd hcd) pa_wp he) hdb he hpl) ?_
  obtain ⟨pd0, hs⟩ := Option.isSome_iff_exists.mp hs
  obtain ⟨q0, vs0, e0, _⟩ := (S.sl i _ hC).ls hs
  refine ⟨_, e0, ?_⟩
  refine ha F H σ S _ fun vs F1 H1 st1 S1 r1 => ?_
  obtain ⟨q1, ps, e1, h1, h2, h3⟩ := (S1.sl i _ hC1).ls hs1
  rw [e0] at e1; cases e1
  refine ⟨F1, q0, vs, ps, pd, ds, d, pd', by rw [List.append_nil], by rw [List.append_nil, List.length_cons, r1.length, hn], S1.e2, h1, h2, h3, r1, hM, fun v F' H' ps' ee fh kp tt tbb g1 g2 g3 r => ?_⟩
  have ow : s1.own = true := Sl.ls_own hs1
  have oq : Own σ C1 q0 := ⟨i, s1, hC1, ow, e0⟩
  have hi : i < C1.length := (List.getElem?_eq_some_iff.mp hC1).1
  have sub : ∀ a, Own σ (C1.set i (s1.wl pd')) a → Own σ C1 a := fun a o => o.wr hC1 ow
  refine q v F' H' ⟨st1.e.trans ee, (fun a u h n => ?_), (fun a h => st1.t a (tt a h)), fun z => tbb (st1.tb z)⟩ ⟨fh, by rw [List.length_set]; exact S1.len, fun m t h => ?_, fun m m' t t' a z1 z2 z3 z4 z5 z6 => ?_, tbb S1.tb⟩ r
  · obtain ⟨x1, x2, x3⟩ := st1.k a u h n
    have ne : a ≠ q0 := fun z => x2 (z ▸ oq)
    refine ⟨fun hu => (kp a u ne (x1 hu)).1 hu, fun o => x2 (sub a o), fun z => ?_⟩
    cases qq : H1 a with
    | none => rw [st1.t a qq] at h; cases h
    | some u1 => exact (kp a u1 ne qq).2 (x3 z)
  · by_cases hm : i = m
    · subst hm
      rw [List.getElem?_set_self hi] at h
      have h := Option.some.inj h
      subst h
      cases s1 with
      | ol _ => exact ⟨q0, ps', e0, g1, g2, g3⟩
      | op p' _ =>
        obtain ⟨_, z, _⟩ := S1.sl i _ hC1
        rw [e0] at z; cases z
        exact ⟨ps', e0, g1, g2, g3⟩
      | _ => cases hs1
    · rw [List.getElem?_set_ne hm] at h
      have z := S1.sl m t h
      have nq : ∀ b, t.own = true → σ[m]? = some (some (.ref b)) → b ≠ q0 := fun b w1 w2 w3 => hm (S1.dis i m s1 t q0 hC1 h ow w1 e0 (w3 ▸ w2))
      cases t with
      | any => trivial
      | sh d => obtain ⟨v, h1, h2⟩ := z; exact ⟨v, h1, h2.mono ee⟩
      | ol _ => obtain ⟨b, us, h1, h2, h3, h4⟩ := z; exact ⟨b, us, h1, (kp b _ (nq b rfl h1) h2).1 (by intro _ z; cases z), h3.mono ee, (kp b _ (nq b rfl h1) h2).2 h4⟩
      | op b _ => obtain ⟨us, h1, h2, h3, h4⟩ := z; exact ⟨us, h1, (kp b _ (nq b rfl h1) h2).1 (by intro _ z; cases z), h3.mono ee, (kp b _ (nq b rfl h1) h2).2 h4⟩
      | sp s => obtain ⟨v, h1, h2⟩ := z; exact ⟨v, h1, s.mono ee h2⟩
      | ob s => obtain ⟨b, us, h1, h2, h3, h4⟩ := z; exact ⟨b, us, h1, (kp b _ (nq b rfl h1) h2).1 (s.nt h3), s.mono ee h3, (kp b _ (nq b rfl h1) h2).2 h4⟩
  · have low : ∀ (m : Nat) (t : Sl), (C1.set i (s1.wl pd'))[m]? = some t → t.own = true → ∃ t', C1[m]? = some t' ∧ t'.own = true := fun m t h o => by
      by_cases hm : i = m
      · subst hm; exact ⟨s1, hC1, ow⟩
      · rw [List.getElem?_set_ne hm] at h; exact ⟨t, h, o⟩
    obtain ⟨u1, y1, y2⟩ := low m t z1 z3
    obtain ⟨u2, y3, y4⟩ := low m' t' z2 z4
    exact S1.dis m m' u1 u2 a y1 y3 y2 y4 z5 z6
/-- the bundle for callers -/
theorem cal_of {cs : List (Addr × Addr)} {P : Program} {w : World} {K : PySem.W.Frag} {mg : Str → Option Value} {base : Heap} {x : Str} {st : Stmt} {f : Addr} {fd : FuncData} {ps : List Str} {k : Nat} {sp : Sp} (F : FnP K x st f fd) (h : FnOkG cs P w K mg base CX0 k f fd ps sp) (hm : mg x = some (.ref f)) (hb : Binds K fd ps []) : CalG cs P w K mg base k x sp [] :=
  ⟨⟨f, fd, ps, [], h, hm, F.kp, hb, .nil⟩⟩
end
end G
/-! G9: zip of two, of three; enumerate. -/
namespace G
open PySem L2 PyProof.Rows
/-! ### lists and tuples by a mark -/
def SK (K : PySem.W.Frag) (k : Bool) (H : Hp) (a : Addr) (xs : List V) : Prop := if k then SqT K H a xs else SqL K H a xs
def CK (k : Bool) (h : Heap) (a : Addr) (its : Array Value) : Prop := if k then h.IsTuple a its else h.IsList a its
def IK (k : Bool) (h : Heap) (it a : Addr) (i : Nat) : Prop := if k then h.IsTupleIter it a i else h.IsListIter it a i
def OK (k : Bool) (a : Addr) : Obj := if k then { cls := .type "tuple_iterator", data := .fields #[.ref a, .int 0 0] } else { cls := .type "list_iterator", data := .fields #[.ref a, .int 0 0] }
theorem Inv.sk {X : Cx} {pins : List (Addr × Obj)} {σ : L2.St} {H : Hp} {s : Shared} {k : Bool} {a : Addr} {xs : List V} (I : Inv X pins σ H s) (h : SK X.K k H a xs) : ∃ its : List Value, Vals xs its ∧ CK k s.heap a its.toArray := by
  cases k with
  | true => obtain ⟨its, r, p, _⟩ := I.tuple h; exact ⟨its, r, p⟩
  | false => obtain ⟨its, r, p, _⟩ := I.list h; exact ⟨its, r, p.isList⟩
theorem Inv.sk_inj {X : Cx} {pins : List (Addr × Obj)} {σ : L2.St} {H : Hp} {s : Shared} {k : Bool} {a : Addr} {xs ys : List V} (I : Inv X pins σ H s) (h : SK X.K k H a xs) (h' : SK X.K k H a ys) : xs = ys := by
  cases k with
  | true => exact I.tuple_inj h h'
  | false => exact I.list_inj h h'
theorem drawsK {prog : Program} {w : World} {A : Around} (k : Bool) (hh : A.handled = none) (it a : Addr) (hne : a ≠ it) (items : Array Value) :
    Draws prog w A it [it, a] items.size (fun i v => items[i]? = some v) (fun i h => IK k h it a i ∧ CK k h a items) := by
  cases k with
  | true => exact Draws.tuple hh it a hne items
  | false => exact Draws.list hh it a hne items
theorem beginsK (k : Bool) (a : Addr) (items : Array Value) : Begins (.ref a) (OK k a) (fun h => CK k h a items) := by
  cases k with
  | true => exact begins_tuple a items
  | false => exact begins_list a items
theorem IK.begin {k : Bool} {h : Heap} {it a : Addr} (e : h.get? it = some (OK k a)) : IK k h it a 0 := by
  cases k with
  | true => exact ⟨_, e, rfl, rfl⟩
  | false => exact ⟨_, e, rfl, rfl⟩
theorem IK.at {k : Bool} {h h' : Heap} {it a : Addr} {i : Nat} (x : IK k h it a i) (e : ∀ o, h.get? it = some o → h'.get? it = some o) : IK k h' it a i := by
  cases k with
  | true => exact Heap.IsTupleIter.at x e
  | false => exact Heap.IsListIter.at x e
theorem IK.obj {k : Bool} {h : Heap} {it a : Addr} {i : Nat} (x : IK k h it a i) : ∃ o, h.get? it = some o ∧ ∀ v, o.data ≠ .cell v := by
  cases k with
  | true => obtain ⟨o, e, _, d⟩ := x; exact ⟨o, e, fun v q => by rw [d] at q; cases q⟩
  | false => obtain ⟨o, e, _, d⟩ := x; exact ⟨o, e, fun v q => by rw [d] at q; cases q⟩
theorem IK.ne {k k' : Bool} {h : Heap} {it a b : Addr} {i : Nat} {its : Array Value} (x : IK k h it a i) (y : CK k' h b its) : b ≠ it := by
  rintro rfl
  have h1 : ∃ o, h.get? b = some o ∧ (o.cls = .type "tuple_iterator" ∨ o.cls = .type "list_iterator") := by
    cases k with
    | true => obtain ⟨o, e, c, _⟩ := x; exact ⟨o, e, .inl c⟩
    | false => obtain ⟨o, e, c, _⟩ := x; exact ⟨o, e, .inr c⟩
  have h2 : ∃ o, h.get? b = some o ∧ (o.cls = .type "tuple" ∨ o.cls = .type "list") := by
    cases k' with
    | true => obtain ⟨o, e, c, _⟩ := y; exact ⟨o, e, .inl c⟩
    | false => obtain ⟨o, e, c, _⟩ := y; exact ⟨o, e, .inr c⟩
  obtain ⟨o, e, c⟩ := h1
  obtain ⟨o', e', c'⟩ := h2
  rw [e] at e'; cases e'
  rcases c with c | c <;> rw [c] at c' <;> revert c' <;> decide
theorem CK.lt {k : Bool} {h : Heap} {a : Addr} {its : Array Value} (x : CK k h a its) : a < h.objs.size := by
  cases k with
  | true => obtain ⟨o, e, _⟩ := x; exact Heap.lt_size e
  | false => obtain ⟨o, e, _⟩ := x; exact Heap.lt_size e
theorem Rd1.sk {K : PySem.W.Frag} {F H : Hp} (e : Ext F H) {v : V} {d : D} {ds : List D} (r : R F v d) (hs : sq d = some ds) : ∃ a vs k, v = .ref a ∧ (∀ H', Ext F H' → SK K k H' a vs) ∧ RA F vs ds := by
  cases d with
  | list ds' => cases hs; cases r with
    | lst h1 h2 => exact ⟨_, _, false, rfl, fun H' e' => .inl (e'.rd h1), h2⟩
  | tuple ds' => cases hs; cases r with
    | tup h1 h2 => exact ⟨_, _, true, rfl, fun H' e' => .of (e' _ _ h1), h2⟩
  | _ => cases hs

/-! ### zip of two -/
def Itz2 (K : PySem.W.Frag) (k1 k2 : Bool) (a b : Addr) : It :=
  ⟨fun i H => ∃ (xs ys : List V) (x y : V), SK K k1 H a xs ∧ SK K k2 H b ys ∧ xs[i]? = some x ∧ ys[i]? = some y,
    fun i H v H' => ∃ T x y, v = .ref T ∧ H T = none ∧ H' = upd H T (.tup [x, y]) ∧ (∀ xs, SK K k1 H a xs → xs[i]? = some x) ∧ ∀ ys, SK K k2 H b ys → ys[i]? = some y,
    fun i H => ∃ xs ys : List V, SK K k1 H a xs ∧ SK K k2 H b ys ∧ i = min xs.length ys.length⟩
theorem turn_zip2 {P : Program} {w : World} {K : PySem.W.Frag} {elts : List Expr} {kk : Nat} {tpos : Pos} {a b z TI TO i1 i2 : Addr} {k1 k2 : Bool} (D : ZipSep2 z TI TO i1 i2 [i1, a] [i2, b]) :
    Turn P w K (.Tuple elts kk tpos) (Itz2 K k1 k2 a b) [z, TI, TO, i1, i2] z (fun i h => IsZip h z TI TO .none ∧ IsTupOf2 h TI (.ref i1) (.ref i2) ∧ (∃ x y, IsTupOf2 h TO x y) ∧ IK k1 h i1 a i ∧ IK k2 h i2 b i) where
  mem := by simp
  obj := fun i h st c hc => by
    obtain ⟨hz, hTI, ⟨x, y, hTO⟩, h1, h2⟩ := st
    have e' : c = z ∨ c = TI ∨ c = TO ∨ c = i1 ∨ c = i2 := by simpa using hc
    rcases e' with q | q | q | q | q
    · rw [q]; exact ⟨_, hz, fun v q => nomatch q⟩
    · rw [q]; exact ⟨_, hTI, fun v q => nomatch q⟩
    · rw [q]; exact ⟨_, hTO, fun v q => nomatch q⟩
    · rw [q]; exact h1.obj
    · rw [q]; exact h2.obj
  keep := fun i h h' st k => by
    obtain ⟨hz, hTI, ⟨x, y, hTO⟩, h1, h2⟩ := st
    exact ⟨k z (by simp) _ hz, k TI (by simp) _ hTI, ⟨x, y, k TO (by simp) _ hTO⟩, h1.at fun o q => k i1 (by simp) o q, h2.at fun o q => k i2 (by simp) o q⟩
  item := by
    intro X hP hw hK hc i pins s σ H E I hf st hg
    subst hP hw hK
    obtain ⟨hz, hTI, hTO, h1, h2⟩ := st
    obtain ⟨xs, ys, x, y, hqx, hqy, hx, hy⟩ := hg
    obtain ⟨its, rv, p⟩ := Inv.sk I hqx
    obtain ⟨its2, rv2, p2⟩ := Inv.sk I hqy
    obtain ⟨u, hu, ru⟩ := rv.get hx
    obtain ⟨u2, hu2, ru2⟩ := rv2.get hy
    have hh : X.A.in1.handled = none := I.ok.hd hc
    have WT := WalksT.zipD2 (prog := X.prog) (w := X.w) (A := X.A) D (drawsK k1 hh i1 a (h1.ne p) its.toArray) (drawsK k2 hh i2 b (h2.ne p2) its2.toArray)
    have hi1 : i < its.length := (List.getElem?_eq_some_iff.mp hu).1
    have hi2 : i < its2.length := (List.getElem?_eq_some_iff.mp hu2).1
    refine WT.item i s _ _ (by simp; omega) ⟨hz, hTI, hTO, ⟨h1, p⟩, ⟨h2, p2⟩⟩ fun T vals h' tk hP hT hIT hMid hk => ⟨_, rfl, WT.go elts kk tpos i T _ _ _ hMid fun h'' st2 hk2 => ?_⟩
    obtain ⟨x1, x2, e1, e2, rfl⟩ := hP
    have e1 : u = x1 := by simpa [hu] using e1
    have e2 : u2 = x2 := by simpa [hu2] using e2
    subst e1 e2
    obtain ⟨o, eo, c, n, ed⟩ := hIT
    have hT2 := hk2 T o (WT.apart i T _ hMid) eo
    have new : ObjOk X.prog X.w (upd H T (.tup [x, y])) h'' T (.tup [x, y]) := ⟨by show 2 ≤ sizeLine; decide, [u, u2], .cons ru (.cons ru2 .nil), o, hT2, c, n, ed⟩
    obtain ⟨hz2, hTI2, hTO2, ⟨h12, _⟩, ⟨h22, _⟩⟩ := st2
    have I1 : L2.Inv X pins σ (upd H T (.tup [x, y])) { s with heap := h'', toks := tk } :=
      I.turnedNew (t' := tk) (ch := [z, TI, TO, i1, i2]) (fun c o hb q => hk2 c o (fun q' => hb (by simp at q' ⊢; rcases q' with q' | q' | q' | q' <;> simp [q'])) (hk c o (fun q' => hb (by simp at q' ⊢; rcases q' with q' | q' | q' | q' <;> simp [q'])) q)) hf hT new
    refine ⟨.ref T, _, I1, rfl, ⟨T, x, y, rfl, I.hok.fresh hT, rfl, fun l hl => by rw [Inv.sk_inj I hl hqx]; exact hx, fun l hl => by rw [Inv.sk_inj I hl hqy]; exact hy⟩, ⟨hz2, hTI2, hTO2, h12, h22⟩, fun c hcm => ?_⟩
    have hlt : c < s.heap.objs.size := by
      obtain ⟨_, _, hTO⟩ := hTO
      have e' : c = z ∨ c = TI ∨ c = TO ∨ c = i1 ∨ c = i2 := by simpa using hcm
      rcases e' with q | q | q | q | q
      · rw [q]; exact Heap.lt_size hz
      · rw [q]; exact Heap.lt_size hTI
      · rw [q]; exact Heap.lt_size hTO
      · rw [q]; obtain ⟨_, e1, _⟩ := h1.obj; exact Heap.lt_size e1
      · rw [q]; obtain ⟨_, e2, _⟩ := h2.obj; exact Heap.lt_size e2
    rw [upd_ne (Nat.ne_of_lt (Nat.lt_of_lt_of_le hlt hT))]
    exact (hf c hcm).1
  done := by
    intro X hP hw hK hc i pins s σ H E I hf st hg
    subst hP hw hK
    obtain ⟨hz, hTI, hTO, h1, h2⟩ := st
    obtain ⟨xs, ys, hqx, hqy, rfl⟩ := hg
    obtain ⟨its, rv, p⟩ := Inv.sk I hqx
    obtain ⟨its2, rv2, p2⟩ := Inv.sk I hqy
    have hh : X.A.in1.handled = none := I.ok.hd hc
    have WT := WalksT.zipD2 (prog := X.prog) (w := X.w) (A := X.A) D (drawsK k1 hh i1 a (h1.ne p) its.toArray) (drawsK k2 hh i2 b (h2.ne p2) its2.toArray)
    refine WT.done s _ _ ⟨hz, hTI, hTO, ⟨?_, p⟩, ⟨?_, p2⟩⟩ fun h' tk hk => ⟨rfl, I.turnedL (t' := tk) (ch := [z, TI, TO, i1, i2]) (fun c o hb q => hk c o (fun q' => hb (by simp at q' ⊢; rcases q' with q' | q' | q' | q' <;> simp [q'])) q) hf⟩
    · have e : min its.toArray.size its2.toArray.size = min xs.length ys.length := by simp [rv.length, rv2.length]
      rw [e]; exact h1
    · have e : min its.toArray.size its2.toArray.size = min xs.length ys.length := by simp [rv.length, rv2.length]
      rw [e]; exact h2
  self := fun A i s Q E st h => wpAny_pyIter_zip st.1 h
/-- the data of a zip -/
def zip2 : List D → List D → List D := List.zipWith fun a b => .tuple [a, b]
theorem yields_zip2 {K : PySem.W.Frag} {F : Hp} {k1 k2 : Bool} {a b : Addr} {vs us : List V} {ds es : List D} (h1 : ∀ H', Ext F H' → SK K k1 H' a vs) (h2 : ∀ H', Ext F H' → SK K k2 H' b us) (r1 : RA F vs ds) (r2 : RA F us es) : Yields (Itz2 K k1 k2 a b) F (zip2 ds es) where
  go := fun i H F' e1 e2 hi => by
    have hi : i < ds.length ∧ i < es.length := by simp [zip2] at hi; omega
    have g1 : i < vs.length := by rw [r1.length]; exact hi.1
    have g2 : i < us.length := by rw [r2.length]; exact hi.2
    exact ⟨vs, us, vs[i], us[i], h1 H (e1.trans e2), h2 H (e1.trans e2), List.getElem?_eq_getElem g1, List.getElem?_eq_getElem g2⟩
  yld := fun i H F' x H' e1 e2 y => by
    obtain ⟨T, x, y, rfl, hT, rfl, f1, f2⟩ := y
    refine ⟨upd F' T (.tup [x, y]), XS.new e2 hT, fun d hd => ?_⟩
    have hd' := hd
    unfold zip2 at hd'
    rw [List.getElem?_zipWith] at hd'
    cases q1 : ds[i]? with
    | none => rw [q1] at hd'; cases hd'
    | some d1 =>
      cases q2 : es[i]? with
      | none => rw [q1, q2] at hd'; cases hd'
      | some d2 =>
        rw [q1, q2] at hd'
        cases hd'
        obtain ⟨v1, w1, z1⟩ := r1.get q1
        obtain ⟨v2, w2, z2⟩ := r2.get q2
        have := f1 vs (h1 H (e1.trans e2))
        rw [w1] at this; cases this
        have := f2 us (h2 H (e1.trans e2))
        rw [w2] at this; cases this
        have ex : Ext F (upd F' T (.tup [x, y])) := e1.trans (Ext.new (e2.free hT))
        exact .tup upd_same (.cons (z1.mono ex) (.cons (z2.mono ex) .nil))
  stop := fun H F' e1 e2 => ⟨vs, us, h1 H (e1.trans e2), h2 H (e1.trans e2), by simp [zip2, r1.length, r2.length]⟩
section
variable {X : Cx} {tg iter a b c e : Expr} {C C1 C2 C3 C' : Ct} {d d1 d2 d3 : D} {ds es : List D} {pos p : Pos} {i j k : Int} {x y : Str}
def iZip2 (K : PySem.W.Frag) (ta : TA) : TI := fun σ H R => ta σ H fun vs H1 => ∃ a b xs ys k1 k2, vs = [.ref a, .ref b] ∧ SK K k1 H1 a xs ∧ SK K k2 H1 b ys ∧ R (Itz2 K k1 k2 a b) H1
theorem pi_zip2 {e e2 : Expr} {ta : TA} {p pos tpos : Pos} {elts : List Expr} {kk : Nat} (hg : Gl X "zip") (hm : X.mg "zip" = none) (ha : PA X [e, e2] ta)
    (hs : starEach [e, e2] X.env = (false, eval e X.env) :: starEach [e2] X.env := by rfl) (hpl : (backTo pos (starEach [e2] X.env)).any (·.1) = false := by rfl) :
    PI X (.Tuple elts kk tpos) (.Call (.Name "zip" p) [e, e2] [] pos) (iZip2 X.K ta) := by
  refine ⟨fun pins s σ H R I h => ?_⟩
  refine Call_ (ld_blt I hg hm PyProof.Rows.boot_zip (PyProof.Rows.callWith_type1 (thn (ha.run pos pins s σ H _ I h) fun us s1 ⟨vs, H1, I1, r1, q1⟩ => ?_) hs hpl))
  obtain ⟨a, b, xs, ys, k1, k2, ex, hqx, hqy, q⟩ := q1
  subst ex
  cases r1 with
  | cons r rr =>
    cases rr with
    | cons r' rr =>
      cases rr
      cases r
      cases r'
      have fresh5 : ∀ c, c ∈ [s1.heap.objs.size + 4, s1.heap.objs.size + 2, s1.heap.objs.size + 3, s1.heap.objs.size, s1.heap.objs.size + 1] → FpOk X pins H1 c := fun c hcm => by
        have hle : s1.heap.objs.size ≤ c := by
          simp at hcm
          omega
        exact I1.fpOk hle (I1.hok.fresh hle)
      obtain ⟨its, rv, p1⟩ := Inv.sk I1 hqx
      obtain ⟨its2, rv2, p2⟩ := Inv.sk I1 hqy
      refine zip_begins2 (beginsK k1 a its.toArray) (beginsK k2 b its2.toArray) p1 p2 fun h' hz hTI hTO h1 h2 hsz hk => wpAny_pyIter_zip hz ?_
      have I2 : L2.Inv X pins σ H1 { s1 with heap := h' } := I1.kept (t' := s1.toks) hk
      exact ⟨s1.heap.objs.size + 4, [s1.heap.objs.size + 4, s1.heap.objs.size + 2, s1.heap.objs.size + 3, s1.heap.objs.size, s1.heap.objs.size + 1], _, _, H1, rfl, I2, turn_zip2 (zip_sep2 (fun b hb => by simp at hb; subst hb; exact p1.lt) (fun b hb => by simp at hb; subst hb; exact p2.lt)), ⟨hz, hTI, ⟨_, _, hTO⟩, IK.begin h1, IK.begin h2⟩, fresh5, q⟩
theorem gi_zip2 {elts : List Expr} {kk : Nat} {tpos : Pos} (hm : X.mg "zip" = none) (ha : GE X a C d1 C1) (hb : GE X b C1 d2 C2) (h1 : sq d1 = some ds) (h2 : sq d2 = some es) (hg : Gl X "zip" := by rfl)
    (hs : starEach [a, b] X.env = (false, eval a X.env) :: starEach [b] X.env := by rfl) (hs2 : starEach [b] X.env = (false, eval b X.env) :: starEach [] X.env := by rfl) (hpl : (backTo pos (starEach [b] X.env)).any (·.1) = false := by rfl) :
    GI X (.Tuple elts kk tpos) (.Call (.Name "zip" p) [a, b] [] pos) C (zip2 ds es) C2 := fun F H σ S Rr q => by
  refine wpI_of (pi_zip2 hg hm (pa_cons pe_wp (pa_cons pe_wp pa_nil hs2) hs) hs hpl) ?_
  refine ha F H σ S _ fun v F1 H1 s1 S1 r1 => hb F1 H1 σ S1 _ fun u F2 H2 s2 S2 r2 => ?_
  obtain ⟨l1, vs, k1, rfl, g1, w1⟩ := Rd1.sk (K := X.K) S2.ex (r1.mono s2.e) h1
  obtain ⟨l2, us, k2, rfl, g2, w2⟩ := Rd1.sk (K := X.K) S2.ex r2 h2
  exact ⟨l1, l2, vs, us, k1, k2, rfl, g1 H2 S2.ex, g2 H2 S2.ex, q _ F2 H2 (s1.trans s2) S2 (yields_zip2 g1 g2 w1 w2)⟩
end
/-! ### zip of three -/
def Itz3 (K : PySem.W.Frag) (k1 k2 k3 : Bool) (a b c : Addr) : It :=
  ⟨fun i H => ∃ (xs ys ws : List V) (x y u : V), SK K k1 H a xs ∧ SK K k2 H b ys ∧ SK K k3 H c ws ∧ xs[i]? = some x ∧ ys[i]? = some y ∧ ws[i]? = some u,
    fun i H v H' => ∃ T x y u, v = .ref T ∧ H T = none ∧ H' = upd H T (.tup [x, y, u]) ∧ (∀ xs, SK K k1 H a xs → xs[i]? = some x) ∧ (∀ ys, SK K k2 H b ys → ys[i]? = some y) ∧ ∀ ws, SK K k3 H c ws → ws[i]? = some u,
    fun i H => ∃ xs ys ws : List V, SK K k1 H a xs ∧ SK K k2 H b ys ∧ SK K k3 H c ws ∧ i = min (min xs.length ys.length) ws.length⟩
theorem turn_zip3 {P : Program} {w : World} {K : PySem.W.Frag} {elts : List Expr} {kk : Nat} {tpos : Pos} {a b c z TI TO i1 i2 i3 : Addr} {k1 k2 k3 : Bool} (D : ZipSep3 z TI TO i1 i2 i3 [i1, a] [i2, b] [i3, c]) :
    Turn P w K (.Tuple elts kk tpos) (Itz3 K k1 k2 k3 a b c) [z, TI, TO, i1, i2, i3] z (fun i h => IsZip h z TI TO .none ∧ IsTupOf3 h TI (.ref i1) (.ref i2) (.ref i3) ∧ (∃ x y u, IsTupOf3 h TO x y u) ∧ IK k1 h i1 a i ∧ IK k2 h i2 b i ∧ IK k3 h i3 c i) where
  mem := by simp
  obj := fun i h st c hc => by
    obtain ⟨hz, hTI, ⟨x, y, u, hTO⟩, h1, h2, h3⟩ := st
    have e' : c = z ∨ c = TI ∨ c = TO ∨ c = i1 ∨ c = i2 ∨ c = i3 := by simpa using hc
    rcases e' with q | q | q | q | q | q
    · rw [q]; exact ⟨_, hz, fun v q => nomatch q⟩
    · rw [q]; exact ⟨_, hTI, fun v q => nomatch q⟩
    · rw [q]; exact ⟨_, hTO, fun v q => nomatch q⟩
    · rw [q]; exact h1.obj
    · rw [q]; exact h2.obj
    · rw [q]; exact h3.obj
  keep := fun i h h' st k => by
    obtain ⟨hz, hTI, ⟨x, y, u, hTO⟩, h1, h2, h3⟩ := st
    exact ⟨k z (by simp) _ hz, k TI (by simp) _ hTI, ⟨x, y, u, k TO (by simp) _ hTO⟩, h1.at fun o q => k i1 (by simp) o q, h2.at fun o q => k i2 (by simp) o q, h3.at fun o q => k i3 (by simp) o q⟩
  item := by
    intro X hP hw hK hc i pins s σ H E I hf st hg
    subst hP hw hK
    obtain ⟨hz, hTI, hTO, h1, h2, h3⟩ := st
    obtain ⟨xs, ys, ws, x, y, u0, hqx, hqy, hqw, hx, hy, hw⟩ := hg
    obtain ⟨its, rv, p⟩ := Inv.sk I hqx
    obtain ⟨its2, rv2, p2⟩ := Inv.sk I hqy
    obtain ⟨its3, rv3, p3⟩ := Inv.sk I hqw
    obtain ⟨u, hu, ru⟩ := rv.get hx
    obtain ⟨u2, hu2, ru2⟩ := rv2.get hy
    obtain ⟨u3, hu3, ru3⟩ := rv3.get hw
    have hh : X.A.in1.handled = none := I.ok.hd hc
    have WT := WalksT.zipD3 (prog := X.prog) (w := X.w) (A := X.A) D (drawsK k1 hh i1 a (h1.ne p) its.toArray) (drawsK k2 hh i2 b (h2.ne p2) its2.toArray) (drawsK k3 hh i3 c (h3.ne p3) its3.toArray)
    have hi1 : i < its.length := (List.getElem?_eq_some_iff.mp hu).1
    have hi2 : i < its2.length := (List.getElem?_eq_some_iff.mp hu2).1
    have hi3 : i < its3.length := (List.getElem?_eq_some_iff.mp hu3).1
    refine WT.item i s _ _ (by simp; omega) ⟨hz, hTI, hTO, ⟨h1, p⟩, ⟨h2, p2⟩, ⟨h3, p3⟩⟩ fun T vals h' tk hP hT hIT hMid hk => ⟨_, rfl, WT.go elts kk tpos i T _ _ _ hMid fun h'' st2 hk2 => ?_⟩
    obtain ⟨x1, x2, x3, e1, e2, e3, rfl⟩ := hP
    have e1 : u = x1 := by simpa [hu] using e1
    have e2 : u2 = x2 := by simpa [hu2] using e2
    have e3 : u3 = x3 := by simpa [hu3] using e3
    subst e1 e2 e3
    obtain ⟨o, eo, c0, n, ed⟩ := hIT
    have hT2 := hk2 T o (WT.apart i T _ hMid) eo
    have new : ObjOk X.prog X.w (upd H T (.tup [x, y, u0])) h'' T (.tup [x, y, u0]) := ⟨by show 3 ≤ sizeLine; decide, [u, u2, u3], .cons ru (.cons ru2 (.cons ru3 .nil)), o, hT2, c0, n, ed⟩
    obtain ⟨hz2, hTI2, hTO2, ⟨h12, _⟩, ⟨h22, _⟩, ⟨h32, _⟩⟩ := st2
    have I1 : L2.Inv X pins σ (upd H T (.tup [x, y, u0])) { s with heap := h'', toks := tk } :=
      I.turnedNew (t' := tk) (ch := [z, TI, TO, i1, i2, i3]) (fun c o hb q => hk2 c o (fun q' => hb (by simp at q' ⊢; rcases q' with q' | q' | q' | q' | q' <;> simp [q'])) (hk c o (fun q' => hb (by simp at q' ⊢; rcases q' with q' | q' | q' | q' | q' <;> simp [q'])) q)) hf hT new
    refine ⟨.ref T, _, I1, rfl, ⟨T, x, y, u0, rfl, I.hok.fresh hT, rfl, fun l hl => by rw [Inv.sk_inj I hl hqx]; exact hx, fun l hl => by rw [Inv.sk_inj I hl hqy]; exact hy, fun l hl => by rw [Inv.sk_inj I hl hqw]; exact hw⟩, ⟨hz2, hTI2, hTO2, h12, h22, h32⟩, fun c hcm => ?_⟩
    have hlt : c < s.heap.objs.size := by
      obtain ⟨_, _, _, hTO⟩ := hTO
      have e' : c = z ∨ c = TI ∨ c = TO ∨ c = i1 ∨ c = i2 ∨ c = i3 := by simpa using hcm
      rcases e' with q | q | q | q | q | q
      · rw [q]; exact Heap.lt_size hz
      · rw [q]; exact Heap.lt_size hTI
      · rw [q]; exact Heap.lt_size hTO
      · rw [q]; obtain ⟨_, e1, _⟩ := h1.obj; exact Heap.lt_size e1
      · rw [q]; obtain ⟨_, e2, _⟩ := h2.obj; exact Heap.lt_size e2
      · rw [q]; obtain ⟨_, e3, _⟩ := h3.obj; exact Heap.lt_size e3
    rw [upd_ne (Nat.ne_of_lt (Nat.lt_of_lt_of_le hlt hT))]
    exact (hf c hcm).1
  done := by
    intro X hP hw hK hc i pins s σ H E I hf st hg
    subst hP hw hK
    obtain ⟨hz, hTI, hTO, h1, h2, h3⟩ := st
    obtain ⟨xs, ys, ws, hqx, hqy, hqw, rfl⟩ := hg
    obtain ⟨its, rv, p⟩ := Inv.sk I hqx
    obtain ⟨its2, rv2, p2⟩ := Inv.sk I hqy
    obtain ⟨its3, rv3, p3⟩ := Inv.sk I hqw
    have hh : X.A.in1.handled = none := I.ok.hd hc
    have WT := WalksT.zipD3 (prog := X.prog) (w := X.w) (A := X.A) D (drawsK k1 hh i1 a (h1.ne p) its.toArray) (drawsK k2 hh i2 b (h2.ne p2) its2.toArray) (drawsK k3 hh i3 c (h3.ne p3) its3.toArray)
    have e : min (min its.toArray.size its2.toArray.size) its3.toArray.size = min (min xs.length ys.length) ws.length := by simp [rv.length, rv2.length, rv3.length]
    refine WT.done s _ _ ⟨hz, hTI, hTO, ⟨?_, p⟩, ⟨?_, p2⟩, ⟨?_, p3⟩⟩ fun h' tk hk => ⟨rfl, I.turnedL (t' := tk) (ch := [z, TI, TO, i1, i2, i3]) (fun c o hb q => hk c o (fun q' => hb (by simp at q' ⊢; rcases q' with q' | q' | q' | q' | q' <;> simp [q'])) q) hf⟩
    · rw [e]; exact h1
    · rw [e]; exact h2
    · rw [e]; exact h3
  self := fun A i s Q E st h => wpAny_pyIter_zip st.1 h
/-- the data of a zip -/
def zip3 : List D → List D → List D → List D
  | a :: as, b :: bs, c :: cs => .tuple [a, b, c] :: zip3 as bs cs
  | _, _, _ => []
theorem zip3_length : ∀ (as bs cs : List D), (zip3 as bs cs).length = min (min as.length bs.length) cs.length
  | [], _, _ => by simp [zip3]
  | _ :: _, [], _ => by simp [zip3]
  | _ :: _, _ :: _, [] => by simp [zip3]
  | a :: as, b :: bs, c :: cs => by simp only [zip3, List.length_cons, zip3_length as bs cs]; omega
theorem zip3_get : ∀ {as bs cs : List D} {i : Nat} {d : D}, (zip3 as bs cs)[i]? = some d → ∃ a b c, as[i]? = some a ∧ bs[i]? = some b ∧ cs[i]? = some c ∧ d = .tuple [a, b, c]
  | [], _, _, _, _, h => by simp [zip3] at h
  | _ :: _, [], _, _, _, h => by simp [zip3] at h
  | _ :: _, _ :: _, [], _, _, h => by simp [zip3] at h
  | a :: as, b :: bs, c :: cs, 0, d, h => by simp [zip3] at h; subst h; exact ⟨a, b, c, by simp, by simp, by simp, rfl⟩
  | a :: as, b :: bs, c :: cs, i + 1, d, h => by
    obtain ⟨a', b', c', h1, h2, h3, h4⟩ := zip3_get (as := as) (bs := bs) (cs := cs) (i := i) (d := d) (by simpa [zip3] using h)
    exact ⟨a', b', c', by simpa using h1, by simpa using h2, by simpa using h3, h4⟩
theorem yields_zip3 {K : PySem.W.Frag} {F : Hp} {k1 k2 k3 : Bool} {a b c : Addr} {vs us ws : List V} {ds es fs : List D} (h1 : ∀ H', Ext F H' → SK K k1 H' a vs) (h2 : ∀ H', Ext F H' → SK K k2 H' b us) (h3 : ∀ H', Ext F H' → SK K k3 H' c ws) (r1 : RA F vs ds) (r2 : RA F us es) (r3 : RA F ws fs) : Yields (Itz3 K k1 k2 k3 a b c) F (zip3 ds es fs) where
  go := fun i H F' e1 e2 hi => by
    rw [zip3_length] at hi
    have g1 : i < vs.length := by rw [r1.length]; omega
    have g2 : i < us.length := by rw [r2.length]; omega
    have g3 : i < ws.length := by rw [r3.length]; omega
    exact ⟨vs, us, ws, vs[i], us[i], ws[i], h1 H (e1.trans e2), h2 H (e1.trans e2), h3 H (e1.trans e2), List.getElem?_eq_getElem g1, List.getElem?_eq_getElem g2, List.getElem?_eq_getElem g3⟩
  yld := fun i H F' x H' e1 e2 y => by
    obtain ⟨T, x, y, u, rfl, hT, rfl, f1, f2, f3⟩ := y
    refine ⟨upd F' T (.tup [x, y, u]), XS.new e2 hT, fun d hd => ?_⟩
    obtain ⟨d1, d2, d3, q1, q2, q3, rfl⟩ := zip3_get hd
    obtain ⟨v1, w1, z1⟩ := r1.get q1
    obtain ⟨v2, w2, z2⟩ := r2.get q2
    obtain ⟨v3, w3, z3⟩ := r3.get q3
    have := f1 vs (h1 H (e1.trans e2))
    rw [w1] at this; cases this
    have := f2 us (h2 H (e1.trans e2))
    rw [w2] at this; cases this
    have := f3 ws (h3 H (e1.trans e2))
    rw [w3] at this; cases this
    have ex : Ext F (upd F' T (.tup [x, y, u])) := e1.trans (Ext.new (e2.free hT))
    exact .tup upd_same (.cons (z1.mono ex) (.cons (z2.mono ex) (.cons (z3.mono ex) .nil)))
  stop := fun H F' e1 e2 => ⟨vs, us, ws, h1 H (e1.trans e2), h2 H (e1.trans e2), h3 H (e1.trans e2), by rw [zip3_length, r1.length, r2.length, r3.length]⟩
section
variable {X : Cx} {tg iter a b c e : Expr} {C C1 C2 C3 C' : Ct} {d d1 d2 d3 : D} {ds es fs : List D} {pos p : Pos} {i j k : Int} {x y : Str}
def iZip3 (K : PySem.W.Frag) (ta : TA) : TI := fun σ H R => ta σ H fun vs H1 => ∃ a b c xs ys ws k1 k2 k3, vs = [.ref a, .ref b, .ref c] ∧ SK K k1 H1 a xs ∧ SK K k2 H1 b ys ∧ SK K k3 H1 c ws ∧ R (Itz3 K k1 k2 k3 a b c) H1
theorem pi_zip3 {e e2 e3 : Expr} {ta : TA} {p pos tpos : Pos} {elts : List Expr} {kk : Nat} (hg : Gl X "zip") (hm : X.mg "zip" = none) (ha : PA X [e, e2, e3] ta)
    (hs : starEach [e, e2, e3] X.env = (false, eval e X.env) :: starEach [e2, e3] X.env := by rfl) (hpl : (backTo pos (starEach [e2, e3] X.env)).any (·.1) = false := by rfl) :
    PI X (.Tuple elts kk tpos) (.Call (.Name "zip" p) [e, e2, e3] [] pos) (iZip3 X.K ta) := by
  refine ⟨fun pins s σ H R I h => ?_⟩
  refine Call_ (ld_blt I hg hm PyProof.Rows.boot_zip (PyProof.Rows.callWith_type1 (thn (ha.run pos pins s σ H _ I h) fun us s1 ⟨vs, H1, I1, r1, q1⟩ => ?_) hs hpl))
  obtain ⟨a, b, c, xs, ys, ws, k1, k2, k3, ex, hqx, hqy, hqw, q⟩ := q1
  subst ex
  cases r1 with
  | cons r rr =>
    cases rr with
    | cons r' rr =>
      cases rr with
      | cons r'' rr =>
      cases rr
      cases r
      cases r'
      cases r''
      have fresh5 : ∀ c, c ∈ [s1.heap.objs.size + 5, s1.heap.objs.size + 3, s1.heap.objs.size + 4, s1.heap.objs.size, s1.heap.objs.size + 1, s1.heap.objs.size + 2] → FpOk X pins H1 c := fun c hcm => by
        have hle : s1.heap.objs.size ≤ c := by
          simp at hcm
          omega
        exact I1.fpOk hle (I1.hok.fresh hle)
      obtain ⟨its, rv, p1⟩ := Inv.sk I1 hqx
      obtain ⟨its2, rv2, p2⟩ := Inv.sk I1 hqy
      obtain ⟨its3, rv3, p3⟩ := Inv.sk I1 hqw
      refine zip_begins3 (beginsK k1 a its.toArray) (beginsK k2 b its2.toArray) (beginsK k3 c its3.toArray) p1 p2 p3 fun h' hz hTI hTO h1 h2 h3 hsz hk => wpAny_pyIter_zip hz ?_
      have I2 : L2.Inv X pins σ H1 { s1 with heap := h' } := I1.kept (t' := s1.toks) hk
      exact ⟨s1.heap.objs.size + 5, [s1.heap.objs.size + 5, s1.heap.objs.size + 3, s1.heap.objs.size + 4, s1.heap.objs.size, s1.heap.objs.size + 1, s1.heap.objs.size + 2], _, _, H1, rfl, I2, turn_zip3 (zip_sep3 (fun b hb => by simp at hb; subst hb; exact p1.lt) (fun b hb => by simp at hb; subst hb; exact p2.lt) (fun b hb => by simp at hb; subst hb; exact p3.lt)), ⟨hz, hTI, ⟨_, _, _, hTO⟩, IK.begin h1, IK.begin h2, IK.begin h3⟩, fresh5, q⟩
theorem gi_zip3 {elts : List Expr} {kk : Nat} {tpos : Pos} (hm : X.mg "zip" = none) (ha : GE X a C d1 C1) (hb : GE X b C1 d2 C2) (hc : GE X c C2 d3 C3) (h1 : sq d1 = some ds) (h2 : sq d2 = some es) (h3 : sq d3 = some fs) (hg : Gl X "zip" := by rfl)
    (hs : starEach [a, b, c] X.env = (false, eval a X.env) :: starEach [b, c] X.env := by rfl) (hs2 : starEach [b, c] X.env = (false, eval b X.env) :: starEach [c] X.env := by rfl) (hs3 : starEach [c] X.env = (false, eval c X.env) :: starEach [] X.env := by rfl) (hpl : (backTo pos (starEach [b, c] X.env)).any (·.1) = false := by rfl) :
    GI X (.Tuple elts kk tpos) (.Call (.Name "zip" p) [a, b, c] [] pos) C (zip3 ds es fs) C3 := fun F H σ S Rr q => by
  refine wpI_of (pi_zip3 hg hm (pa_cons pe_wp (pa_cons pe_wp (pa_cons pe_wp pa_nil hs3) hs2) hs) hs hpl) ?_
  refine ha F H σ S _ fun v F1 H1 s1 S1 r1 => hb F1 H1 σ S1 _ fun u F2 H2 s2 S2 r2 => hc F2 H2 σ S2 _ fun w F3 H3 s3 S3 r3 => ?_
  obtain ⟨l1, vs, k1, rfl, g1, w1⟩ := Rd1.sk (K := X.K) S3.ex ((r1.mono s2.e).mono s3.e) h1
  obtain ⟨l2, us, k2, rfl, g2, w2⟩ := Rd1.sk (K := X.K) S3.ex (r2.mono s3.e) h2
  obtain ⟨l3, ws, k3, rfl, g3, w3⟩ := Rd1.sk (K := X.K) S3.ex r3 h3
  exact ⟨l1, l2, l3, vs, us, ws, k1, k2, k3, rfl, g1 H3 S3.ex, g2 H3 S3.ex, g3 H3 S3.ex, q _ F3 H3 ((s1.trans s2).trans s3) S3 (yields_zip3 g1 g2 g3 w1 w2 w3)⟩
end
end G
/-! G10: list comprehensions with two fors. -/
namespace G
open PySem L2
section
variable {X : Cx} {tg iter tg1 iter1 a b c e elt : Expr} {ifs ifs1 : List Expr} {scope : Scope} {C C1 C2 C3 C' : Ct} {d d1 d2 d3 : D} {ds ds' : List D} {pos p : Pos} {i j k : Int} {x y : Str} {P : Out → Prop} {rest : List Stmt} {s : Sl} {vs vs1 : List Nat} {own : List (Str × Nat)}
def wpIF (X : Cx) (scope : Scope) (tg iter : Expr) : TI := fun σ H R => ∀ B pins s, Inv (bx X scope B) pins σ H s → wpAny (model (bx X scope B).prog (bx X scope B).w) (bx X scope B).A (eval iter (bx X scope B).env) (fun v s1 => wpAny (model (bx X scope B).prog (bx X scope B).w) (bx X scope B).A (pyIter v) (PIE (bx X scope B) pins σ tg R) (bx X scope B).xe s1) (bx X scope B).xe s
theorem pi_wpF {B : Blk} : PI (bx X scope B) tg iter (wpIF X scope tg iter) := ⟨fun pins s σ H R I h => h B pins s I⟩
theorem lc_loop {α β : Type} {xs : List α} {ε : α → D} {ε' : β → D} {f : α → Option (Option β)} {ys ws0 : List β} {J : It} {F0 H0 F1 H1 : Hp} {o0 : Addr → Prop} {σ : L2.St} {L : Addr} {acc0 : List V} {Nd : Hp → Prop} (hf : lcF f xs = some ys) (hz : (ws0 ++ ys).length ≤ sizeLine)
    (Y : Yields J F1 (xs.map ε)) (hno : NoOwn C vs) (hb : ∀ x ∈ xs, ∀ o, f x = some o → Turn1 X scope tg ifs elt vs C (ε x) (o.map ε') C)
    (st0 : Stp F0 H0 o0 F1 H1 (Own σ C)) (S1 : Sat F1 H1 σ C) (hL0 : H0 L = none) (hL1 : H1 L = some (.lst acc0)) (r0 : RA F1 acc0 (ws0.map ε')) (fL1 : F1 L = none) (nL : ¬ Own σ C L)
    (q : ∀ F' H' acc', Stp F0 H0 o0 F' H' (Own σ C) → Sat F' H' σ C → H' L = some (.lst acc') → RA F' acc' ((ws0 ++ ys).map ε') → F' L = none → Ext F1 F' → Nd H') :
    ∃ W : Nat → Nat → Hp → Prop, (∃ m, W 0 m H1) ∧ ∀ i m H, W i m H → (J.stop i H ∧ Nd H) ∨ (J.go i H ∧ ∃ N : Hp → Prop, (∀ H', N H' → ∃ m', m' < m ∧ W (i + 1) m' H') ∧ ∀ v H', J.yld i H v H' →
      wpGF (bx X scope) tg v (wipe σ vs) H' fun σ2 H2 => wipe σ2 vs = wipe σ vs ∧ wpTsF X scope ifs σ2 H2 fun b H3 => if b = true then wpEF (bx X scope) elt σ2 H3 fun y H4 => ∃ acc, H4 L = some (.lst acc) ∧ acc.length < sizeLine ∧ N (upd H4 L (.lst (acc ++ [y]))) else N H3) := by
  have yl : (xs.map ε).length = xs.length := List.length_map ..
  refine ⟨fun i m H2 => m = xs.length - i ∧ i ≤ xs.length ∧ ∃ zs ws acc F2, lcF f (xs.drop i) = some zs ∧ ws0 ++ ys = ws ++ zs ∧ H2 L = some (.lst acc) ∧ RA F2 acc (ws.map ε') ∧ F2 L = none ∧
    Stp F0 H0 o0 F2 H2 (Own σ C) ∧ Sat F2 H2 σ C ∧ Ext F1 F2, ⟨_, rfl, Nat.zero_le _, ys, ws0, acc0, F1, hf, rfl, hL1, r0, fL1, st0, S1, Ext.refl _⟩, ?_⟩
  rintro i m H2 ⟨rfl, hil, zs, ws, acc, F2, hm, hys, hL2, ra, fL, st, S2, e12⟩
  by_cases hlt : i < xs.length
  · refine .inr ⟨Y.go i H2 F2 e12 S2.ex (by rw [yl]; exact hlt), ?_⟩
    rw [List.drop_eq_getElem_cons hlt] at hm
    unfold lcF at hm
    cases hfx : f xs[i] with
    | none => rw [hfx] at hm; cases hm
    | some o =>
      rw [hfx] at hm
      cases hrest : lcF f (xs.drop (i + 1)) with
      | none => simp only [hrest] at hm; cases hm
      | some zs' =>
        simp only [hrest] at hm
        cases hm
        refine ⟨fun H' => ∃ ws' acc' F', ws0 ++ ys = ws' ++ zs' ∧ H' L = some (.lst acc') ∧ RA F' acc' (ws'.map ε') ∧ F' L = none ∧ Stp F0 H0 o0 F' H' (Own σ C) ∧ Sat F' H' σ C ∧ Ext F1 F', ?_, ?_⟩
        · rintro H' ⟨ws', acc', F', e1, e3, e4, e5, e7, e8, e9⟩
          exact ⟨xs.length - (i + 1), by omega, rfl, hlt, zs', ws', acc', F', hrest, e1, e3, e4, e5, e7, e8, e9⟩
        · intro v H' y
          obtain ⟨F3, x3, r3⟩ := Y.yld i H2 F2 v H' e12 S2.ex y
          have r3 := r3 (ε xs[i]) (by rw [List.getElem?_map, List.getElem?_eq_getElem hlt]; rfl)
          have S3 := (S2.xs x3).hid (vs := vs)
          have hmem : xs[i] ∈ xs := List.getElem_mem hlt
          obtain ⟨is, Cx, k, Cx1, hg, his, ht, hy, hn⟩ := hb _ hmem o hfx
          have st3 : Stp F0 H0 o0 F3 H' (Own (wipe σ vs) (hid C vs)) := (st.trans x3.stp).sub fun a o => own_hid1 o
          have nL3 : ¬ Own (wipe σ vs) (hid C vs) L := fun o => nL (own_hid1 o)
          have hL3 : H' L = some (.lst acc) := x3.h _ _ hL2 (by intro _ z; cases z)
          have fL3 : F3 L = none := x3.n _ _ hL2 fL
          have fin : ∀ {σ4 : L2.St} {F5 H5 : Hp} {Cy : Ct}, Upd is (wipe σ vs) σ4 → hid Cy vs = hid C vs → Stp F3 H' (Own (wipe σ vs) (hid C vs)) F5 H5 (Own σ4 Cy) → Sat F5 H5 σ4 Cy →
              H5 L = some (.lst acc) ∧ F5 L = none ∧ Stp F0 H0 o0 F5 H5 (Own σ C) ∧ Sat F5 H5 σ C ∧ Ext F2 F5 := fun {σ4 F5 H5 Cy} u hh s5 S5 => by
            have ew := upd_wipe u his
            obtain ⟨g1, g2, g3⟩ := s5.k L _ hL3 nL3
            have g1 := g1 (by intro _ z; cases z)
            have toOwn : ∀ a, Own σ C a → Own σ4 Cy a := fun a o => by
              have o' := (Own.hid (vs := vs) hno).mpr o
              rw [← hh, ← ew] at o'
              exact own_hid1 o'
            have S6 := S5.hid (vs := vs)
            rw [ew, hh] at S6
            refine ⟨g1, g3 fL3, (st3.trans s5).sub toOwn, back_to hno S6 s5.e S2.len fun j hj s hs => ?_, x3.f.trans s5.e⟩
            exact (S2.sl j s hs).keep (hno j hj s hs) (x3.f.trans s5.e)
          intro B
          refine hg B F3 H' (wipe σ vs) v S3 r3 _ fun σ4 u4 s4 S4 => ?_
          refine ⟨upd_wipe u4 his, ?_⟩
          refine ht F3 H' σ4 S4 _ fun F5 H5 s5 S5 => ?_
          cases k with
          | false =>
            obtain ⟨eo, hh⟩ := hn rfl
            have eo : o = none := by
              cases o with
              | none => rfl
              | some _ => cases eo
            subst eo
            obtain ⟨g1, g2, g4, g5, g6⟩ := fin u4 hh (s4.trans s5) S5
            exact iteF ⟨ws, acc, F5, hys, g1, ra.mono g6, g2, g4, g5, e12.trans g6⟩
          | true =>
            obtain ⟨y, Cx2, eo, he, hh⟩ := hy rfl
            cases o with
            | none => cases eo
            | some z =>
              have ey : ε' z = y := Option.some.inj eo
              refine iteT ?_
              intro B
              refine he B F5 H5 σ4 S5 _ fun vy F6 H6 s6 S6 r6 => ?_
              obtain ⟨g1, g2, g4, g5, g6⟩ := fin u4 hh ((s4.trans s5).trans s6) S6
              have hacc : acc.length < sizeLine := by
                have h1 := ra.length
                rw [List.length_map] at h1
                have h2 := congrArg List.length hys
                simp only [List.length_append, Option.toList_some, List.length_cons, List.length_nil] at h2
                rw [List.length_append] at hz
                omega
              refine ⟨acc, g1, hacc, ws ++ [z], acc ++ [vy], F6, by rw [hys]; simp, upd_same, ?_, g2, g4.other hL0, g5.other g2 nL, e12.trans g6⟩
              rw [List.map_append]
              exact (ra.mono g6).snoc (by rw [ey]; exact r6)
  · have e : i = xs.length := by omega
    subst e
    rw [List.drop_length] at hm
    cases hm
    refine .inl ⟨?_, ?_⟩
    · rw [← yl]
      exact Y.stop H2 F2 e12 S2.ex
    · rw [List.append_nil] at hys
      exact q F2 H2 acc st S2 hL2 (by rw [hys]; exact ra) fL e12
/-- [.. for x in xs for y in src x] -/
def lc2F {α β γ : Type} (src : α → Option (List β)) (f : α → β → Option (Option γ)) : List α → Option (List γ)
  | [] => some []
  | x :: xs => match src x with
    | none => none
    | some ys => match lcF (f x) ys with
      | none => none
      | some zs => match lc2F src f xs with
        | none => none
        | some ws => some (zs ++ ws)
theorem lc2_main {α β γ : Type} {xs : List α} {ε : α → D} {ε1 : β → D} {ε' : γ → D} {src : α → Option (List β)} {f : α → β → Option (Option γ)} {ys : List γ} (hf : lc2F src f xs = some ys) (hz : ys.length ≤ sizeLine)
    (hi : GI X tg iter C (xs.map ε) C1) (hno : NoOwn C1 vs)
    (hb : ∀ x ∈ xs, ∀ us, src x = some us → ∃ is Cx, (∀ B, GG (bx X scope B) tg is (ε x) (hid C1 vs) Cx) ∧ (∀ i ∈ is, i ∈ vs) ∧ (∀ B, GI (bx X scope B) tg1 iter1 Cx (us.map ε1) Cx) ∧ NoOwn Cx vs1 ∧
      (∀ y ∈ us, ∀ o, f x y = some o → Turn1 X scope tg1 ifs1 elt vs1 Cx (ε1 y) (o.map ε') Cx) ∧ hid Cx vs = hid C1 vs)
    {F H : Hp} {σ : L2.St} (S : Sat F H σ C) {Q : VK} (q : ∀ p us F' H', Stp F H (Own σ C) F' H' (Own σ C1) → Sat F' H' σ C1 → H p = none → H' p = some (.lst us) → RA F' us (ys.map ε') → F' p = none → ¬ Own σ C1 p → Q (.ref p) H') :
    tLc2 (wpI X tg iter) (wpGF (bx X scope) tg) (wpTsF X scope []) (wpIF X scope tg1 iter1) (wpGF (bx X scope) tg1) (wpTsF X scope ifs1) (wpEF (bx X scope) elt) vs vs1 σ H Q := by
  refine hi F H σ S _ fun J F1 H1 s1 S1 Y => ?_
  intro L hL
  have hL0 : H L = none := s1.t L hL
  have yl : (xs.map ε).length = xs.length := List.length_map ..
  refine ⟨fun i m H2 => m = xs.length - i ∧ i ≤ xs.length ∧ ∃ zs ws acc F2, lc2F src f (xs.drop i) = some zs ∧ ys = ws ++ zs ∧ H2 L = some (.lst acc) ∧ RA F2 acc (ws.map ε') ∧ F2 L = none ∧ (¬ Own σ C1 L) ∧
    Stp F1 H1 (Own σ C1) F2 H2 (Own σ C1) ∧ Sat F2 H2 σ C1, ?_, ?_⟩
  · have x : XS F1 H1 F1 (upd H1 L (.lst [])) := XS.fresh S1.ex hL
    exact ⟨_, rfl, Nat.zero_le _, ys, [], [], F1, hf, rfl, upd_same, .nil, S1.ex.free hL, own_new S1 hL, x.stp, S1.xs x⟩
  rintro i m H2 ⟨rfl, hil, zs, ws, acc, F2, hm, hys, hL2, ra, fL, nL, st, S2⟩
  by_cases hlt : i < xs.length
  · refine .inr ⟨Y.go i H2 F2 st.e S2.ex (by rw [yl]; exact hlt), ?_⟩
    rw [List.drop_eq_getElem_cons hlt] at hm
    unfold lc2F at hm
    cases hsx : src xs[i] with
    | none => rw [hsx] at hm; cases hm
    | some us =>
      rw [hsx] at hm
      cases hfx : lcF (f xs[i]) us with
      | none => simp only [hfx] at hm; cases hm
      | some zs1 =>
        simp only [hfx] at hm
        cases hrest : lc2F src f (xs.drop (i + 1)) with
        | none => simp only [hrest] at hm; cases hm
        | some zs' =>
          simp only [hrest] at hm
          cases hm
          refine ⟨fun H' => ∃ ws' acc' F', ys = ws' ++ zs' ∧ H' L = some (.lst acc') ∧ RA F' acc' (ws'.map ε') ∧ F' L = none ∧ Stp F1 H1 (Own σ C1) F' H' (Own σ C1) ∧ Sat F' H' σ C1, ?_, ?_⟩
          · rintro H' ⟨ws', acc', F', e1, e3, e4, e5, e7, e8⟩
            exact ⟨xs.length - (i + 1), by omega, rfl, hlt, zs', ws', acc', F', hrest, e1, e3, e4, e5, nL, e7, e8⟩
          · intro v H' y
            obtain ⟨F3, x3, r3⟩ := Y.yld i H2 F2 v H' st.e S2.ex y
            have r3 := r3 (ε xs[i]) (by rw [List.getElem?_map, List.getElem?_eq_getElem hlt]; rfl)
            have S3 := (S2.xs x3).hid (vs := vs)
            have hmem : xs[i] ∈ xs := List.getElem_mem hlt
            obtain ⟨is, Cx, hg, his, hi1, hno1, hb1, hh⟩ := hb _ hmem us hsx
            have st3 : Stp F1 H1 (Own σ C1) F3 H' (Own (wipe σ vs) (hid C1 vs)) := (st.trans x3.stp).sub fun a o => own_hid1 o
            have nL3 : ¬ Own (wipe σ vs) (hid C1 vs) L := fun o => nL (own_hid1 o)
            have hL3 : H' L = some (.lst acc) := x3.h _ _ hL2 (by intro _ z; cases z)
            have fL3 : F3 L = none := x3.n _ _ hL2 fL
            intro B
            refine hg B F3 H' (wipe σ vs) v S3 r3 _ fun σ4 u4 s4 S4 => ?_
            have ew := upd_wipe u4 his
            refine ⟨ew, ?_⟩
            have toOwn : ∀ a, Own σ C1 a → Own σ4 Cx a := fun a o => by
              have o' := (Own.hid (vs := vs) hno).mpr o
              rw [← hh, ← ew] at o'
              exact own_hid1 o'
            refine gts_nil F3 H' σ4 S4 _ fun F5 H5 s5 S5 => iteT ?_
            intro B
            refine hi1 B F5 H5 σ4 S5 _ fun J1 F6 H6 s6 S6 Y1 => ?_
            have s46 := (s4.trans s5).trans s6
            obtain ⟨g1, g2, g3⟩ := s46.k L _ hL3 nL3
            have g1 := g1 (by intro _ z; cases z)
            have st6 := st3.trans s46
            refine lc_loop (ws0 := ws) hfx ?_ Y1 hno1 hb1 st6 S6 hL g1 (ra.mono (x3.f.trans s46.e)) (g3 fL3) g2 fun F7 H7 acc7 st7 S7 hL7 r7 fL7 e67 => ?_
            · have h2 := congrArg List.length hys
              simp only [List.length_append] at h2 ⊢
              omega
            · have S8 := S7.hid (vs := vs)
              rw [ew, hh] at S8
              refine ⟨ws ++ zs1, acc7, F7, by rw [hys]; simp, hL7, r7, fL7, st7.sub toOwn, back_to hno S8 st7.e S2.len fun j hj s hs => ?_⟩
              exact (S2.sl j s hs).keep (hno j hj s hs) ((x3.f.trans s46.e).trans e67)
  · have e : i = xs.length := by omega
    subst e
    rw [List.drop_length] at hm
    cases hm
    refine .inl ⟨?_, ?_⟩
    · rw [← yl]
      exact Y.stop H2 F2 st.e S2.ex
    · refine q L acc F2 H2 (s1.trans st) S2 hL0 hL2 ?_ fL nL
      rw [hys, List.append_nil]; exact ra
theorem g_lc2 {α β γ : Type} {xs : List α} {ε : α → D} {ε1 : β → D} {ε' : γ → D} {src : α → Option (List β)} {f : α → β → Option (Option γ)} {ys : List γ} (vs1 : List Nat) (hf : lc2F src f xs = some ys) (hz : ys.length ≤ sizeLine) (hc : X.calm = true) (hN : X.N.Nodup) (ok : BlkOk X.N X.env.scope scope own)
    (hi : GI X tg iter C (xs.map ε) C1) (hno : NoOwn C1 (own.map (·.2)))
    (hb : ∀ x ∈ xs, ∀ us, src x = some us → ∃ is Cx, (∀ B, GG (bx X scope B) tg is (ε x) (hid C1 (own.map (·.2))) Cx) ∧ (∀ i ∈ is, i ∈ own.map (·.2)) ∧ (∀ B, GI (bx X scope B) tg1 iter1 Cx (us.map ε1) Cx) ∧ NoOwn Cx vs1 ∧
      (∀ y ∈ us, ∀ o, f x y = some o → Turn1 X scope tg1 ifs1 elt vs1 Cx (ε1 y) (o.map ε') Cx) ∧ hid Cx (own.map (·.2)) = hid C1 (own.map (·.2)))
    (hv : ∀ i ∈ vs1, i ∈ own.map (·.2) := by decide) (hs : ∀ x, foldedSetIterable iter X.env x = pure x := by intro _; rfl) (hs1 : ∀ env x, foldedSetIterable iter1 env x = pure x := by intro _ _; rfl) :
    GL X (.ListComp elt [⟨tg, iter, [], 0⟩, ⟨tg1, iter1, ifs1, 0⟩] scope pos) C (ys.map ε') C1 := fun F H σ S Q q =>
  wpE_of (pe_lc2 hc hN pi_wp ok hv (fun s H C cl fp => pg_wpF (B := ⟨s, H, C, cl, fp⟩)) (fun s H C cl fp => pts_wpF (B := ⟨s, H, C, cl, fp⟩)) (fun s H C cl fp => pi_wpF (B := ⟨s, H, C, cl, fp⟩)) (fun s H C cl fp => pg_wpF (B := ⟨s, H, C, cl, fp⟩)) (fun s H C cl fp => pts_wpF (B := ⟨s, H, C, cl, fp⟩)) (fun s H C cl fp => pe_wpF (B := ⟨s, H, C, cl, fp⟩)) hs hs1) (lc2_main hf hz hi hno hb S q)
theorem gs_setLc2 {α β γ : Type} (i : Nat) {y : Str} {py spos : Pos} {xs : List α} {ε : α → D} {ε1 : β → D} {ε' : γ → D} {src : α → Option (List β)} {f : α → β → Option (Option γ)} {ys : List γ} (vs1 : List Nat) (hf : lc2F src f xs = some ys) (hz : ys.length ≤ sizeLine) (hc : X.calm = true) (hN : X.N.Nodup) (ok : BlkOk X.N X.env.scope scope own)
    (hi : GI X tg iter C (xs.map ε) C1) (hno : NoOwn C1 (own.map (·.2)))
    (hb : ∀ x ∈ xs, ∀ us, src x = some us → ∃ is Cx, (∀ B, GG (bx X scope B) tg is (ε x) (hid C1 (own.map (·.2))) Cx) ∧ (∀ i ∈ is, i ∈ own.map (·.2)) ∧ (∀ B, GI (bx X scope B) tg1 iter1 Cx (us.map ε1) Cx) ∧ NoOwn Cx vs1 ∧
      (∀ y ∈ us, ∀ o, f x y = some o → Turn1 X scope tg1 ifs1 elt vs1 Cx (ε1 y) (o.map ε') Cx) ∧ hid Cx (own.map (·.2)) = hid C1 (own.map (·.2)))
    (hr : GS X rest (C1.set i (.ol (ys.map ε'))) P) (hl : i < C1.length := by exact Nat.le_of_ble_eq_true rfl)
    (hv : ∀ i ∈ vs1, i ∈ own.map (·.2) := by decide) (hy : X.N[i]? = some y := by rfl) (hyl : X.env.scope.names.lookup y = some .local := by rfl) (hsw : swapsWith (.ListComp elt [⟨tg, iter, [], 0⟩, ⟨tg1, iter1, ifs1, 0⟩] scope pos) (some (.Name y py)) spos.line X.env = pure true := by first | exact sw_true rfl rfl rfl (by decide +kernel)) (hs : ∀ x, foldedSetIterable iter X.env x = pure x := by intro _; rfl) (hs1 : ∀ env x, foldedSetIterable iter1 env x = pure x := by intro _ _; rfl) :
    GS X (.Assign [.Name y py] (.ListComp elt [⟨tg, iter, [], 0⟩, ⟨tg1, iter1, ifs1, 0⟩] scope pos) spos :: rest) C P := fun F H σ D' S q => by
  refine wpSs_of (pss_cons (ps_setLc2 hc hN hy hyl hsw pi_wp ok hv (fun s H C cl fp => pg_wpF (B := ⟨s, H, C, cl, fp⟩)) (fun s H C cl fp => pts_wpF (B := ⟨s, H, C, cl, fp⟩)) (fun s H C cl fp => pi_wpF (B := ⟨s, H, C, cl, fp⟩)) (fun s H C cl fp => pg_wpF (B := ⟨s, H, C, cl, fp⟩)) (fun s H C cl fp => pts_wpF (B := ⟨s, H, C, cl, fp⟩)) (fun s H C cl fp => pe_wpF (B := ⟨s, H, C, cl, fp⟩)) hs hs1) pss_wp) ?_
  show tLc2 (wpI X tg iter) (wpGF (bx X scope) tg) (wpTsF X scope []) (wpIF X scope tg1 iter1) (wpGF (bx X scope) tg1) (wpTsF X scope ifs1) (wpEF (bx X scope) elt) (own.map (·.2)) vs1 σ H (fun x H1 => gName i x σ H1 (wpSs X rest D'))
  refine lc2_main hf hz hi hno hb S fun p us F1 H1 s1 S1 h1 h2 h3 h4 h5 => ?_
  exact hr F1 H1 _ D' (S1.asg hl ⟨p, us, rfl, h2, h3, h4⟩ fun _ a e => by cases e; exact own_any h5) fun o ho => (q o ho).step (s1.ol h1)
end
end G
/-! G11: sorted, tuple * int, tuple[::-1], list.count. -/
namespace G
open PySem L2 PyProof.Rows
open PySem.W (AllAlike Sortable dataLe dataLt EachIs sortLe alike sorted_data)
/-! ### insertion sort -/
def insB {α : Type} (le : α → α → Bool) (x : α) : List α → List α
  | [] => [x]
  | y :: ys => if le x y then x :: y :: ys else y :: insB le x ys
def isort {α : Type} (le : α → α → Bool) : List α → List α
  | [] => []
  | x :: xs => insB le x (isort le xs)
section
variable {α β : Type} {le : α → α → Bool}
theorem insB_mem {x z : α} : ∀ {l : List α}, z ∈ insB le x l ↔ z = x ∨ z ∈ l
  | [] => by simp [insB]
  | y :: ys => by
    unfold insB
    by_cases h : le x y = true
    · rw [if_pos h]; simp
    · rw [if_neg h]; simp only [List.mem_cons, insB_mem]
      constructor
      · rintro (h | h | h) <;> simp [h]
      · rintro (h | h | h) <;> simp [h]
theorem insB_length {x : α} : ∀ {l : List α}, (insB le x l).length = l.length + 1
  | [] => rfl
  | y :: ys => by
    unfold insB
    by_cases h : le x y = true
    · rw [if_pos h]; rfl
    · rw [if_neg h]; simp [insB_length]
theorem isort_mem {z : α} : ∀ {l : List α}, z ∈ isort le l ↔ z ∈ l
  | [] => by simp [isort]
  | y :: ys => by unfold isort; rw [insB_mem, isort_mem]; simp
theorem isort_length : ∀ {l : List α}, (isort le l).length = l.length
  | [] => rfl
  | y :: ys => by unfold isort; rw [insB_length, isort_length]; rfl
theorem insB_pair (h : PySem.W.TotalLe le) {x : α} : ∀ {l : List α}, l.Pairwise (fun a b => le a b = true) → (insB le x l).Pairwise (fun a b => le a b = true)
  | [], _ => by simp [insB]
  | y :: ys, hl => by
    unfold insB
    by_cases hx : le x y = true
    · rw [if_pos hx]
      refine .cons (fun z hz => ?_) hl
      rcases List.mem_cons.mp hz with rfl | hz
      · exact hx
      · exact h.trans _ _ _ hx ((List.pairwise_cons.mp hl).1 z hz)
    · rw [if_neg hx]
      refine .cons (fun z hz => ?_) (insB_pair h (List.pairwise_cons.mp hl).2)
      rcases insB_mem.mp hz with rfl | hz
      · rcases h.total y z with q | q
        · exact q
        · exact absurd q hx
      · exact (List.pairwise_cons.mp hl).1 z hz
theorem insB_filter (h : PySem.W.TotalLe le) {x c : α} : ∀ {l : List α}, (insB le x l).filter (PySem.W.sameRank le c) = (x :: l).filter (PySem.W.sameRank le c)
  | [] => rfl
  | y :: ys => by
    unfold insB
    by_cases hx : le x y = true
    · rw [if_pos hx]
    · rw [if_neg hx]
      have ih := insB_filter h (x := x) (c := c) (l := ys)
      rw [List.filter_cons, ih]
      by_cases h1 : PySem.W.sameRank le c y = true
      · have h2 : ¬ PySem.W.sameRank le c x = true := fun h2 => by
          have a := (Bool.and_eq_true_iff.mp h1)
          have b := (Bool.and_eq_true_iff.mp h2)
          exact hx (h.trans _ _ _ b.2 a.1)
        rw [if_pos h1, List.filter_cons_of_neg h2, List.filter_cons_of_neg h2, List.filter_cons_of_pos h1]
      · rw [if_neg h1]
        by_cases h2 : PySem.W.sameRank le c x = true
        · rw [List.filter_cons_of_pos h2, List.filter_cons_of_pos h2, List.filter_cons_of_neg h1]
        · rw [List.filter_cons_of_neg h2, List.filter_cons_of_neg h2, List.filter_cons_of_neg h1]
theorem isort_eq (h : PySem.W.TotalLe le) : ∀ (l : List α), isort le l = l.mergeSort le := fun l => by
  refine PySem.W.sort_unique h ?_ fun c => ?_
  · induction l with
    | nil => exact .nil
    | cons x xs ih => exact insB_pair h ih
  · induction l with
    | nil => rfl
    | cons x xs ih => show (insB le x (isort le xs)).filter _ = _; rw [insB_filter h, List.filter_cons, List.filter_cons, ih]
theorem insB_map {s : β → β → Bool} (f : α → β) {x : α} : ∀ {l : List α}, (∀ b ∈ l, le x b = s (f x) (f b)) → (insB le x l).map f = insB s (f x) (l.map f)
  | [], _ => rfl
  | y :: ys, h => by
    unfold insB
    rw [List.map_cons]
    dsimp only
    rw [← h y (by simp)]
    by_cases hx : le x y = true
    · rw [if_pos hx, if_pos hx]; rfl
    · rw [if_neg hx, if_neg hx, List.map_cons, insB_map f fun b hb => h b (by simp [hb])]
theorem isort_map {s : β → β → Bool} (f : α → β) : ∀ {l : List α}, (∀ a ∈ l, ∀ b ∈ l, le a b = s (f a) (f b)) → (isort le l).map f = isort s (l.map f)
  | [], _ => rfl
  | y :: ys, h => by
    show (insB le y (isort le ys)).map f = insB s (f y) (isort s (ys.map f))
    rw [insB_map f fun b hb => h y (by simp) b (by simp [isort_mem.mp hb]), isort_map f fun a ha b hb => h a (by simp [ha]) b (by simp [hb])]
end
/-- Python's order of data -/
def leD (a b : D) : Bool := !dataLt b a
theorem leD_eq : leD = dataLe false (id : D → D) := by
  funext a b; rfl
theorem leD_total : PySem.W.TotalLe leD := by rw [leD_eq]; exact PySem.W.sortLe_total _ _ _
/-- can these be sorted? -/
def tup1 : D → Bool
  | .tuple (_ :: _) => true
  | _ => false
def tup0 : D → Bool
  | .none => false
  | .tuple _ => false
  | _ => true
def srtOk (ds : List D) : Bool := decide (ds.length ≤ 1) || (ds.all (fun a => ds.all (alike a)) && (ds.all tup1 || ds.all tup0) && ds.all fun d => decide (d.depth ≤ 64))
theorem srtOk_spec {ds : List D} (h : srtOk ds = true) : ds.length ≤ 1 ∨ (AllAlike ds ∧ Sortable ds ∧ ∀ d ∈ ds, d.depth ≤ 64) := by
  unfold srtOk at h
  simp only [Bool.or_eq_true, Bool.and_eq_true, decide_eq_true_eq, List.all_eq_true] at h
  rcases h with h | ⟨⟨h1, h2⟩, h3⟩
  · exact .inl h
  · refine .inr ⟨fun d hd d' hd' => h1 d hd d' hd', ?_, h3⟩
    rcases h2 with h2 | h2
    · refine .inl fun d hd => ?_
      have := h2 d hd
      cases d with
      | tuple xs => cases xs with
        | nil => cases this
        | cons x r => exact ⟨x, r, rfl⟩
      | _ => cases this
    · refine .inr fun d hd => ?_
      have := h2 d hd
      cases d with
      | none => cases this
      | tuple xs => cases this
      | _ => exact ⟨by simp, by simp⟩
/-- the values of a list together with what they stand for -/
theorem RA.pairs {F : Hp} : ∀ {vs : List V} {ds : List D}, RA F vs ds → ∃ ps : List (V × D), vs = ps.map (·.1) ∧ ds = ps.map (·.2) ∧ ∀ p ∈ ps, R F p.1 p.2
  | _, _, .nil => ⟨[], rfl, rfl, fun _ h => nomatch h⟩
  | _, _, .cons (v := v) (d := d) r t => by
    obtain ⟨ps, h1, h2, h3⟩ := RA.pairs t
    refine ⟨(v, d) :: ps, by rw [h1]; rfl, by rw [h2]; rfl, fun p hp => ?_⟩
    rcases List.mem_cons.mp hp with rfl | hp
    · exact r
    · exact h3 p hp
theorem RA.of_pairs {F : Hp} : ∀ {ps : List (V × D)}, (∀ p ∈ ps, R F p.1 p.2) → RA F (ps.map (·.1)) (ps.map (·.2))
  | [], _ => .nil
  | p :: ps, h => .cons (h p (by simp)) (RA.of_pairs fun q hq => h q (by simp [hq]))
theorem each_of_vals : ∀ {ps : List (V × D)} {us : List Value}, Vals (ps.map (·.1)) us → EachIs (fun u p => RelV p.1 u) us ps
  | [], _, .nil => .nil
  | _ :: _, _, .cons r t => .cons r (each_of_vals t)
theorem vals_of_each : ∀ {ps : List (V × D)} {us : List Value}, EachIs (fun u p => RelV p.1 u) us ps → Vals (ps.map (·.1)) us
  | _, _, .nil => .nil
  | _, _, .cons r t => .cons r (vals_of_each t)
theorem each_mem2 {α β : Type} {R : α → β → Prop} {R' : α → β → Prop} : ∀ {as : List α} {bs : List β}, (∀ a b, b ∈ bs → R a b → R' a b) → EachIs R as bs → EachIs R' as bs
  | _, _, _, .nil => .nil
  | _, _, h, .cons r t => .cons (h _ _ (by simp) r) (each_mem2 (fun a b hb => h a b (by simp [hb])) t)
def rSortD (K : PySem.W.Frag) : List V → Hp → VK → Prop := fun vs H Q => ∃ (a : Addr) (ps : List (V × D)), vs = [V.ref a] ∧ SqL K H a (ps.map (·.1)) ∧ (∀ p ∈ ps, Dp K H p.1 p.2) ∧ srtOk (ps.map (·.2)) = true ∧
  ∀ l, H l = none → Q (.ref l) (upd H l (.lst ((isort (fun p q => leD p.2 q.2) ps).map (·.1))))
section
variable {X : Cx} {a b c e : Expr} {C C1 C2 C3 C' : Ct} {d d1 d2 d3 : D} {ds : List D} {pos p : Pos} {i j : Int} {x : Str}
theorem cr_sortD {k : Nat} (hr : RoomG k X.A) : CallR X (.builtin "sorted") (rSortD X.K) := by
  intro pins s σ H vs us Q I r h
  obtain ⟨a, ps, rfl, hs, hd, hok, q⟩ := h
  obtain ⟨its, rv, hl, hz⟩ := I.list hs
  rw [Vals.ref1 r]
  have hz' : ps.length ≤ sizeLine := by rw [List.length_map] at hz; exact hz
  have fin : ∀ out : List Value, Vals ((isort (fun p q => leD p.2 q.2) ps).map (·.1)) out → EP X pins σ Q (.ref (s.heap.objs.size + 1)) { s with heap := sortedAll s.heap its out.toArray } := fun out ho => by
    obtain ⟨ep, he'⟩ := PyProof.Rows.sortedAll_at s.heap its out.toArray
    have hlen : ((isort (fun p q : V × D => leD p.2 q.2) ps).map (·.1)).length ≤ sizeLine := by
      rw [List.length_map, isort_length]; exact hz'
    exact ⟨.ref _, upd H (s.heap.objs.size + 1) (.lst _), I.laid (t' := s.toks) (fun _ _ => PyProof.Rows.sortedAll_old) (Nat.le_succ _) ⟨hlen, out, ep, ho, he'⟩, rfl, q _ (I.hok.fresh (Nat.le_succ _))⟩
  rcases srtOk_spec hok with h1 | ⟨hal, hsr, hdep⟩
  · refine SrtO.sorted_ord SrtO.swo_int hl.isList (by rw [← rv.length]; exact hz) (fun h2 _ _ _ _ => ?_) fun out _ hb => ?_
    · rw [← rv.length, List.length_map] at h2
      rw [List.length_map] at h1
      omega
    · refine fin out ?_
      have hp := hb.perm
      have hl1 : its.length ≤ 1 := by rw [← rv.length, List.length_map]; rw [List.length_map] at h1; exact h1
      have e1 : out = its := by
        match its, hl1, hp with
        | [], _, hp => exact hp.eq_nil
        | [v], _, hp => exact List.perm_singleton.mp hp
        | _ :: _ :: _, hl1, _ => simp at hl1
      have e2 : isort (fun p q : V × D => leD p.2 q.2) ps = ps := by
        match ps, h1 with
        | [], _ => rfl
        | [p], _ => rfl
        | _ :: _ :: _, h1 => simp at h1
      rw [e1, e2]; exact rv
  · have hu : ∀ p ∈ ps, X.A.units + 2 + p.2.depth < cLine := fun p hp => by
      have h1 := hdep p.2 (List.mem_map.mpr ⟨p, hp, rfl⟩)
      have h2 := hr.un
      omega
    have e := each_of_vals rv
    refine sorted_data (enc := fun p : V × D => p.2) hl.isList e (each_mem2 (fun u p hp r => Dp.reads I p.2 p.1 u (hd p hp) r) e) hal hsr hz' hu fun out hlo ho => fin out ?_
    have e2 : dataLe false (fun p : V × D => p.2) = fun p q : V × D => leD p.2 q.2 := by funext p q; rfl
    have e3 := isort_eq (le := fun p q : V × D => leD p.2 q.2) ⟨fun a b c => leD_total.trans _ _ _, fun a b => leD_total.total _ _⟩ ps
    rw [e2, ← e3] at ho
    exact vals_of_each ho
theorem g_sorted {k : Nat} (hr : RoomG k X.A) (hok : srtOk ds = true) (hm : X.mg "sorted" = none) (ha : GV X a C (.list ds) C1) (hg : Gl X "sorted" := by rfl) (he : starEach [a] X.env = (false, eval a X.env) :: starEach [] X.env := by rfl) : GL X (.Call (.Name "sorted" p) [a] [] pos) C (isort leD ds) C1 :=
  g_b1L (r := rSortD X.K) (cr_sortD hr) (by decide +kernel) hm ha (fun F H v e r Q q => by
    obtain ⟨a, vs, rfl, h, r'⟩ := r.list e
    obtain ⟨ps, rfl, rfl, hps⟩ := r'.pairs
    refine ⟨a, ps, rfl, .inl h, fun p hp => (hps p hp).dp e, hok, fun l hl => q l _ hl ?_⟩
    rw [← isort_map (le := fun p q : V × D => leD p.2 q.2) (s := leD) (·.2) (fun _ _ _ _ => rfl)]
    exact RA.of_pairs fun p hp => hps p (isort_mem.mp hp)) hg (by decide) (by decide) he
/-! ### xs.count(k), whole numbers -/
theorem g_count {is : List Int} {apos : Pos} (i : Nat) (hC : C[i]? = some (.sh (.list (is.map .int)))) (h : GE X e C (.int j) C) (hN : X.N[i]? = some x := by rfl) (hv : Vis X.env.scope x := by first | exact Or.inl rfl | exact Or.inr (Or.inl rfl) | exact Or.inr (Or.inr rfl))
    (hd : (x == ("__debug__" : Str)) = false := by decide) (hcd : (x == ("__classdict__" : Str)) = false := by decide) (he : starEach [e] X.env = (false, eval e X.env) :: starEach [] X.env := by rfl)
    (hfew : ((backTo pos (starEach [e] X.env)).all (fun x => !x.1) && (backToKw pos (keywordEach [] X.env)).all (fun x => x.1.isSome) && decide (([e] : List Expr).length + ([] : List Keyword).length + (if ([] : List Keyword).isEmpty then 0 else 1) < 30)) = true := by rfl)
    (hbase : attributeBase (.Name x p) "count" X.env (eval (.Name x p) X.env) = eval (.Name x p) X.env := by rfl) (hline : (apos.endLine == pos.line) = true := by rfl) :
    GE X (.Call (.Attribute (.Name x p) "count" apos) [e] [] pos) C (.int (is.count j)) C := fun F H σ S Q q => by
  refine wpE_of (pe_bm PySem.F.plainAttrs_list PySem.F.slot_list_count PySem.F.type_list_count mt_lcount (pe_var hN hv hd hcd) (pa_cons pe_wp pa_nil he) hbase hfew hline he) ?_
  obtain ⟨v, e0, r⟩ := S.sl i _ hC
  cases r with
  | lst h1 h2 =>
    refine ⟨_, e0, .inl ⟨rfl, _, .inl (S.ex.rd h1)⟩, ?_⟩
    refine h F H σ S _ fun u F1 H1 s1 S1 r1 => ?_
    cases r1
    cases h2.ints
    exact ⟨_, is, j, rfl, rfl, .inl (S1.ex.rd (s1.e.rd h1)), q _ F1 H1 s1 S1 (.int _)⟩
end
end G
/-! G12: tuple * int, tuple[::-1]. -/
namespace HT
open PySem PySem.Spec PyProof.Rows
section
variable {prog : Program} {w : World} {A : Around} {E : Value → Shared → Prop} {s : Shared}
theorem fm_congr {α β : Type} {f g : α → Option β} : ∀ {l : List α}, (∀ x ∈ l, f x = g x) → l.filterMap f = l.filterMap g
  | [], _ => rfl
  | x :: l, h => by rw [List.filterMap_cons, List.filterMap_cons, h x (by simp), fm_congr fun y hy => h y (by simp [hy])]
theorem rev_pick (xs : Array Value) : ((List.range xs.size).filterMap fun (k : Nat) => xs[(((xs.size : Int) - 1) + (k : Int) * (-1)).toNat]?).toArray = xs.toList.reverse.toArray := by
  congr 1
  apply List.ext_getElem?
  intro i
  have e : (List.range xs.size).filterMap (fun (k : Nat) => xs[(((xs.size : Int) - 1) + (k : Int) * (-1)).toNat]?) = (List.range xs.size).map fun k => xs.toList.reverse.getD k .none := by
    rw [← List.filterMap_eq_map]
    apply fm_congr
    intro k hk
    have hk := List.mem_range.mp hk
    have e1 : (((xs.size : Int) - 1) + (k : Int) * (-1)).toNat = xs.size - 1 - k := by omega
    have hl : k < xs.toList.reverse.length := by simp; exact hk
    rw [e1]
    show _ = some (xs.toList.reverse.getD k Value.none)
    rw [List.getD_eq_getElem?_getD, List.getElem?_eq_getElem hl]
    have : xs.size - 1 - k < xs.size := by omega
    rw [Array.getElem?_eq_getElem this]
    simp [List.getElem_reverse]
  rw [e]
  by_cases hi : i < xs.size
  · simp [hi]
  · rw [List.getElem?_eq_none (by simp; omega), List.getElem?_eq_none (by simp; omega)]
theorem sliceApplied_rev {sl : Addr} {vl vu vs : Value} {n : Nat} {Q : Int × Int × Nat → Shared → Prop} (hs : s.heap.IsSliceOf sl vl vu vs) (pl : IsPart vl none) (pu : IsPart vu none) (ps : IsPart vs (some (-1)))
    (h : Q ((n : Int) - 1, -1, n) s) : wpAny (model prog w) A (Builtin.Slice.sliceApplied (.ref sl) (pure (n : Int))) Q E s := by
  obtain ⟨os, hos, hcs, hds⟩ := id hs
  unfold Builtin.Slice.sliceApplied Builtin.Slice.sliceFields
  refine wpAny_bind (wpAny_bind (wpAny_field hos hds (x := vl) rfl (wpAny_bind (wpAny_field hos hds (x := vu) rfl (wpAny_bind (wpAny_field hos hds (x := vs) rfl (wpAny_pure ?_)))))))
  refine wpAny_bind (slicePart_ ps ?_)
  show wpAny _ _ (if ((-1 : Int) == 0) = true then _ else _) _ _ s
  rw [if_neg (by decide)]
  refine wpAny_bind (slicePart_ pl (wpAny_bind (slicePart_ pu (wpAny_bind (wpAny_pure ?_)))))
  show wpAny _ _ (pure ((n : Int) - 1, (-1 : Int), Builtin.Slice.slicePlaces ((n : Int) - 1) (-1) (-1))) _ _ s
  have e : Builtin.Slice.slicePlaces ((n : Int) - 1) (-1) (-1) = n := by
    unfold Builtin.Slice.slicePlaces
    have h1 : ¬ ((-1 : Int) > 0) := by omega
    simp only [h1, if_false]
    by_cases hn : n = 0
    · subst hn; rfl
    · rw [if_pos (by omega)]
      have : (n : Int) - 1 - -1 - 1 = (n : Int) - 1 := by omega
      rw [this]
      have : (- (-1 : Int)) = 1 := by omega
      rw [this, Int.ediv_one]
      omega
  rw [e]
  exact wpAny_pure h
theorem getItem_tuple_rev {t sl : Addr} {items : Array Value} {vl vu vs : Value} {Q : Value → Shared → Prop} (ht : IsTup s.heap t items) (hs : s.heap.IsSliceOf sl vl vu vs) (pl : IsPart vl none) (pu : IsPart vu none) (ps : IsPart vs (some (-1)))
    (h : Q (.ref s.heap.objs.size) { s with heap := s.heap.push { cls := .type "tuple", data := .seq items.toList.reverse.toArray } })
    (hsz : items.size ≤ sizeLine) : wpAny (model prog w) A (getItem (.ref t) (.ref sl)) Q E s := by
  have htake : sizeOk (.seq items.toList.reverse.toArray) := by
    show items.toList.reverse.toArray.size ≤ sizeLine
    simpa using hsz
  obtain ⟨os, hos, hcs, hds⟩ := id hs
  have hTs : s.TypeIs (.ref sl) "slice" := ⟨os, hos, hcs⟩
  unfold getItem
  try with_reducible refine wpAny_holding ?_
  first | refine wpAny_bind (wpAny_pure ?_) | skip
  refine wpAny_bind (wpAny_sequenceKey ht.typeIs (by decide) ?_)
  refine wpAny_bind (wpAny_callSpecial?_slot (name := Str.ofString "__getitem__") ht.typeIs PyProof.Rows.slot_tuple_getitem
    (wpAny_call_entry PyProof.Rows.slot_tuple_getitem ht.typeIs entry_tuple_getitem ?_ (args_tuple_getitem _ _)))
  show wpAny _ _ (Builtin.Tuple.tupleItemsOf (.ref t) >>= _) _ _ s
  refine wpAny_bind (tupleItemsOf_ ht ?_)
  refine wpAny_bind (wpAny_typeOf hTs ?_)
  rw [if_pos (by decide)]
  refine wpAny_bind (sliceApplied_rev hs pl pu ps ?_)
  have hno : ¬ ((((items.size : Int) - 1) == 0 && (-1 : Int) == 1 && items.size == items.size) = true) := by
    intro q
    rw [Bool.and_eq_true, Bool.and_eq_true] at q
    exact absurd q.1.2 (by decide)
  show wpAny _ _ (if (((items.size : Int) - 1) == 0 && (-1 : Int) == 1 && items.size == items.size) = true then _ else _) _ _ s
  rw [if_neg hno, rev_pick]
  first
    | exact wpAny_bind (m := Builtin.Tuple.tupleExact _) (wpAny_newObj_type (wpAny_pure ⟨_, rfl, wpAny_pure h⟩) htake)
    | exact wpAny_bind (m := Builtin.Tuple.tupleExact _) (wpAny_newObj_type (wpAny_bind (wpAny_pure (wpAny_pure ⟨_, rfl, wpAny_pure h⟩))) htake)
    | exact wpAny_bind (wpAny_bind (m := Builtin.Tuple.tupleExact _) (wpAny_newObj_type (wpAny_pure (wpAny_pure ⟨_, rfl, wpAny_pure h⟩)) htake))
    | exact wpAny_bind (wpAny_bind (m := Builtin.Tuple.tupleExact _) (wpAny_newObj_type (wpAny_pure ⟨_, rfl, wpAny_pure h⟩) htake))
end
end HT
namespace L2
open PySem PySem.Spec PyProof.Rows
theorem tuple_mul1 (l : Addr) (items : Array Value) (n : Nat) (dd : Option Addr) (sl : Array (Option Value)) (x : Int) (u : Tok) (c0 : (decide (x < -(2 ^ 63)) || decide (x ≥ 2 ^ 63)) = false) (c1 : (items.isEmpty || x == 1) = true) :
    Meets (Builtin.«tuple.__mul__» ⟨[.ref l, .int x u], []⟩) (fun _ R s => s.heap.get? l = some { cls := .type "tuple", dict := dd, data := .seq items n, slots := sl } ∧
      R (.ok (.ret (Value.ref l))) s) :=
  .of_wp fun prog w A R s h => by
    obtain ⟨hp, g, d, tk, os⟩ := s
    obtain ⟨hl, h⟩ := h
    have f1 := AutoSeq1.idx_int
    wp_walk using wpAny_loadPart' hl
    repeat (first
      | (refine wpAny_ite_false (decide_eq_false (by rw [c0]; exact Bool.false_ne_true)) ?_; wp_walk using wpAny_loadPart' hl)
      | (refine wpAny_ite_true (decide_eq_true (by rw [c1])) ?_; wp_walk using wpAny_loadPart' hl))
    exact ⟨_, rfl, h⟩
theorem tuple_mul0 (l : Addr) (items : Array Value) (n : Nat) (dd : Option Addr) (sl : Array (Option Value)) (x : Int) (u : Tok) (c0 : (decide (x < -(2 ^ 63)) || decide (x ≥ 2 ^ 63)) = false) (c1 : (items.isEmpty || x == 1) = false) (c2 : (decide (x ≤ 0) || items.isEmpty) = true) :
    Meets (Builtin.«tuple.__mul__» ⟨[.ref l, .int x u], []⟩) (fun _ R s => s.heap.get? l = some { cls := .type "tuple", dict := dd, data := .seq items n, slots := sl } ∧
      R (.ok (.ret (Value.ref s.heap.objs.size))) { s with heap := s.heap.push { cls := Value.type "tuple", data := Data.seq #[] }, toks := s.toks }) :=
  .of_wp fun prog w A R s h => by
    obtain ⟨hp, g, d, tk, os⟩ := s
    obtain ⟨hl, h⟩ := h
    have f1 := AutoSeq1.idx_int
    wp_walk using wpAny_loadPart' hl
    repeat (first
      | (refine wpAny_ite_false (decide_eq_false (by rw [c0]; exact Bool.false_ne_true)) ?_; wp_walk using wpAny_loadPart' hl)
      | (refine wpAny_ite_false (decide_eq_false (by rw [c1]; exact Bool.false_ne_true)) ?_; wp_walk using wpAny_loadPart' hl)
      | (refine wpAny_ite_true (decide_eq_true (by rw [c2])) ?_; wp_walk using wpAny_loadPart' hl)
      | (refine wpAny_ite_false (decide_eq_false (by decide)) ?_; wp_walk using wpAny_loadPart' hl))
    exact ⟨_, rfl, h⟩
/-- t * k, any k, t not empty -/
def rRepA (K : PySem.W.Frag) : R2 := fun x y H Q => ∃ l k xs, x = .ref l ∧ y = .int k ∧ SqT K H l xs ∧ xs ≠ [] ∧ -1000 ≤ k ∧ k ≤ 1000 ∧ xs.length ≤ 1000 ∧ (k = 1 → Q (.ref l) H) ∧ (k ≠ 1 → ∀ p, H p = none → Q (.ref p) (upd H p (.tup (List.replicate k.toNat xs).flatten)))
section
variable {X : Cx}
theorem op_repA : OpR X (binaryOp .Mult) (rRepA X.K) := by
  intro pins s σ H x y v u Q I rx ry h
  obtain ⟨l, k, xs, rfl, rfl, hT, hne, h1, h2, hz, q1, q2⟩ := h
  by_cases hk2 : 2 ≤ k
  · exact op_repT pins s σ H _ _ v u Q I rx ry ⟨l, k, xs, rfl, rfl, hT, hne, hk2, h2, hz, q2 (by omega)⟩
  cases rx
  obtain ⟨t, rfl⟩ := ry
  obtain ⟨its, r, ⟨⟨cls, dd, data, sl⟩, ho, hc, n, hd⟩, hs⟩ := I.tuple hT
  simp only at hc hd
  subst hc hd
  have hle : its.length = xs.length := r.length.symm
  have hn : its ≠ [] := fun e => hne (by
    rw [e] at hle
    exact List.eq_nil_of_length_eq_zero hle.symm)
  have hi : its.toArray.isEmpty = false := by
    cases its with
    | nil => exact absurd rfl hn
    | cons a b => rfl
  have c0 : (decide (k < -(2 ^ 63)) || decide (k ≥ 2 ^ 63)) = false := by
    rw [decide_eq_false (by omega), decide_eq_false (by omega)] <;> rfl
  by_cases hk1 : k = 1
  · have c1 : (its.toArray.isEmpty || k == 1) = true := by rw [hi, Bool.false_or]; exact beq_iff_eq.mpr hk1
    refine wpAny_binaryOp_repeat_ref (T := "tuple") (U := "int") (by decide) ⟨_, ho, rfl⟩ (fun s' => typeIs_int s' k t) noFill_tuple_mul F.fills_int_mul F.slot_int_rmul repeat_tuple F.slot_int_index.lookup
      (call_meets F.slot_int_rmul (typeIs_int s k t) F.entry_int_rmul (F.args_int_rmul_2 _ _) (int_rmul_tuple k t l its.toArray n dd sl)
        ⟨ho, rfl, ⟨_, ho, rfl⟩, call_meets F.slot_tuple_mul ⟨_, ho, rfl⟩ F.entry_tuple_mul (F.args_tuple_mul_2 _ _) (tuple_mul1 l its.toArray n dd sl k t c0 c1) ⟨ho, ?_⟩⟩)
    exact ⟨.ref l, H, I, rfl, q1 hk1⟩
  · have c1 : (its.toArray.isEmpty || k == 1) = false := by
      rw [hi, Bool.false_or]
      exact beq_eq_false_iff_ne.mpr hk1
    have c2 : (decide (k ≤ 0) || its.toArray.isEmpty) = true := by
      rw [decide_eq_true (by omega)]; rfl
    refine wpAny_binaryOp_repeat_ref (T := "tuple") (U := "int") (by decide) ⟨_, ho, rfl⟩ (fun s' => typeIs_int s' k t) noFill_tuple_mul F.fills_int_mul F.slot_int_rmul repeat_tuple F.slot_int_index.lookup
      (call_meets F.slot_int_rmul (typeIs_int s k t) F.entry_int_rmul (F.args_int_rmul_2 _ _) (int_rmul_tuple k t l its.toArray n dd sl)
        ⟨ho, rfl, ⟨_, ho, rfl⟩, call_meets F.slot_tuple_mul ⟨_, ho, rfl⟩ F.entry_tuple_mul (F.args_tuple_mul_2 _ _) (tuple_mul0 l its.toArray n dd sl k t c0 c1 c2) ⟨ho, ?_⟩⟩)
    have e : (List.replicate k.toNat xs).flatten = [] := by
      have : k.toNat = 0 := by omega
      rw [this]; rfl
    have q := q2 hk1 s.heap.objs.size (I.hok.fresh (Nat.le_refl _))
    rw [e] at q
    exact ⟨.ref s.heap.objs.size, _, I.laid (t' := s.toks) (o := .tup []) (fun b ob q => Heap.get?_push_of_some _ q) (Nat.le_refl _) ⟨by decide, _, .nil, IsTup.new _ _⟩, rfl, q⟩
def tRevT (K : PySem.W.Frag) (te : TE) : TE := fun σ H Q => te σ H fun x H1 => ∃ a xs, x = .ref a ∧ SqT K H1 a xs ∧ ∀ p, H1 p = none → Q (.ref p) (upd H1 p (.tup xs.reverse))
theorem pe_revT {e : Expr} {te : TE} {k : Nat} {p1 p2 p3 pos : Pos} (he : PE X e te) : PE X (.Subscript e (.Slice none none (some (.UnaryOp .USub (.Constant (.int 1) k p1) p2)) p3) pos) (tRevT X.K te) := by
  refine ⟨fun pins s σ H Q I h => ?_⟩
  refine Subscript_ (thn (he.run pins s σ H _ I h) fun v s1 ⟨x, H1, I1, r1, q1⟩ => ?_)
  obtain ⟨a, xs, ex, hx, q⟩ := q1
  subst ex
  cases r1
  have hst : PO X (some (.UnaryOp .USub (.Constant (.int 1) k p1) p2)) (tPart (tUn (rU fun i => .int (-i)) (tC (.int 1)))) := po_some (pe_un un_neg pe_int)
  refine wpAny_Slice (thn (po_none.run pins s1 σ H1 (fun o H2 => o = none ∧ H2 = H1) I1 ⟨rfl, rfl⟩) fun vl s2 ⟨l, H2, I2, pl, el, e2⟩ => ?_)
  subst el e2
  refine thn (po_none.run pins s2 σ H2 (fun o H3 => o = none ∧ H3 = H2) I2 ⟨rfl, rfl⟩) fun vu s3 ⟨u, H3, I3, pu, eu, e3⟩ => ?_
  subst eu e3
  refine thn (hst.run pins s3 σ H3 (fun o H4 => o = some (-1) ∧ H4 = H3) I3 ⟨1, rfl, -1, rfl, rfl, rfl⟩) fun vs s4 ⟨o, H4, I4, ps, eo, e4⟩ => ?_
  subst eo e4
  have I5 : Inv X pins σ H4 { s4 with heap := s4.heap.push { cls := .type "slice", data := .fields #[vl, vu, vs] } } := I4.kept (t' := s4.toks) fun b ob q => Heap.get?_push_of_some _ q
  obtain ⟨its, r, ht, hz⟩ := I5.tuple hx
  have hlen := r.length
  show wpAny (model X.prog X.w) X.A (subscriptTail e (.Slice none none (some (.UnaryOp .USub (.Constant (.int 1) k p1) p2)) p3) (.ref a) (.ref s4.heap.objs.size)) (EP X pins σ Q) X.xe { s4 with heap := s4.heap.push { cls := .type "slice", data := .fields #[vl, vu, vs] } }
  refine tail_any (ops := [.ref a, .ref s4.heap.objs.size]) ht.typeIs (PyProof.Rows.slot_tuple_getitem.lookup) ?_ (by with_unfolding_all rfl)
  refine HT.getItem_tuple_rev ht (Heap.IsSliceOf.new _ vl vu vs) pl pu ps ?_ (by rw [List.size_toArray]; omega)
  refine ⟨.ref _, _, I5.laid (t' := s4.toks) (o := .tup xs.reverse) (fun b ob q => Heap.get?_push_of_some _ q) (Nat.le_refl _) ?_, rfl, q _ (I5.hok.fresh (Nat.le_refl _))⟩
  exact ⟨by rw [List.length_reverse]; exact hz, _, r.reverse, IsTup.new _ _⟩
end
end L2
namespace G
open PySem L2
section
variable {X : Cx} {a b c e : Expr} {C C1 C2 C3 C' : Ct} {d d1 d2 d3 : D} {ds : List D} {pos p : Pos} {i j : Int} {x : Str}
theorem g_revT {k : Nat} {p1 p2 p3 : Pos} (ha : GE X a C (.tuple ds) C1) : GE X (.Subscript a (.Slice none none (some (.UnaryOp .USub (.Constant (.int 1) k p1) p2)) p3) pos) C (.tuple ds.reverse) C1 := fun F H σ S Q q => by
  refine wpE_of (pe_revT pe_wp) ?_
  refine ha F H σ S _ fun v F1 H1 s1 S1 r1 => ?_
  obtain ⟨l, vs, rfl, f, h, r'⟩ := Rd1.tuple S1.ex (.inl r1)
  refine ⟨l, vs, rfl, .of h, fun p hp => ?_⟩
  have x : XS F1 H1 (upd F1 p (.tup vs.reverse)) (upd H1 p (.tup vs.reverse)) := XS.new S1.ex hp
  exact q _ _ _ (s1.trans x.stp) (S1.xs x) (.tup upd_same (r'.rev.mono x.f))
/-- t * k -/
def repT {α : Type} (k : Int) (xs : List α) : List α := (List.replicate k.toNat xs).flatten
theorem g_repT {k : Int} (hne : ds ≠ []) (h1 : -1000 ≤ k) (h2 : k ≤ 1000) (hz : ds.length ≤ 1000) (ha : GE X a C (.tuple ds) C1) (hb : GE X b C1 (.int k) C2) : GE X (.BinOp a .Mult b pos) C (.tuple (repT k ds)) C2 := g_opE op_repA ha hb.gv fun F H v1 v2 e r1 r2 Q q => by
  obtain ⟨l, vs, rfl, f, h, r'⟩ := r1.tuple e
  refine ⟨l, k, vs, rfl, r2.int, .of h, fun z => hne ?_, h1, h2, by rw [r'.length]; exact hz, fun hk => ?_, fun hk p hp => ?_⟩
  · subst z; cases r'; rfl
  · subst hk
    refine q _ F H (.refl e) (.tup f ?_)
    have : repT 1 ds = ds := by unfold repT; simp
    rw [this]; exact r'
  · have x : XS F H (upd F p (.tup (List.replicate k.toNat vs).flatten)) (upd H p (.tup (List.replicate k.toNat vs).flatten)) := XS.new e hp
    exact q _ _ _ x (.tup upd_same ((r'.rep _).mono x.f))
end
end G
/-! G13: the rules for typed data. -/
namespace G
open PySem L2
/-! ### data of types -/
abbrev eT {α : Type} (ε : α → D) (xs : List α) : D := .tuple (xs.map ε)
abbrev eL {α : Type} (ε : α → D) (xs : List α) : D := .list (xs.map ε)
abbrev eD (d : D) : D := d
abbrev eP {α β : Type} (ε : α → D) (η : β → D) (x : α × β) : D := .tuple [ε x.1, η x.2]
abbrev eQ {α β γ : Type} (ε : α → D) (η : β → D) (θ : γ → D) (x : α × β × γ) : D := .tuple [ε x.1, η x.2.1, θ x.2.2]
abbrev eP4 {α β γ δ : Type} (ε : α → D) (η : β → D) (θ : γ → D) (ι : δ → D) (x : α × β × γ × δ) : D := .tuple [ε x.1, η x.2.1, θ x.2.2.1, ι x.2.2.2]
abbrev eU (_ : Unit) : D := .none
def eO {α : Type} (ε : α → D) : Option α → D
  | none => .none
  | some x => ε x
/-- can be laid out, so deep at most -/
structure Sh {α : Type} (ε : α → D) (n : Nat) : Prop where
  can : ∀ a, (ε a).canLay0 = true
  dep : ∀ a, (ε a).depth ≤ n
theorem Sh.int : Sh PyData.int 0 := ⟨fun _ => rfl, fun _ => Nat.le_refl _⟩
theorem Sh.bool : Sh PyData.bool 0 := ⟨fun _ => rfl, fun _ => Nat.le_refl _⟩
theorem canAll {ds : List D} : PyData.canLayAll0 ds = true ↔ ∀ d ∈ ds, d.canLay0 = true := by
  induction ds with
  | nil => simp [PyData.canLayAll0]
  | cons d ds ih => simp [PyData.canLayAll0, ih]
theorem depAll {ds : List D} {n : Nat} (h : ∀ d ∈ ds, d.depth ≤ n) : PyData.depthAll ds ≤ n := by
  induction ds with
  | nil => simp [PyData.depthAll]
  | cons d ds ih =>
    unfold PyData.depthAll
    have h1 := h d (by simp)
    have h2 := ih fun e he => h e (by simp [he])
    omega
theorem Sh.T {α : Type} {ε : α → D} {n : Nat} (h : Sh ε n) : Sh (eT ε) (n + 1) := ⟨fun xs => by
  show PyData.canLayAll0 (xs.map ε) = true
  exact canAll.mpr fun d hd => by obtain ⟨x, _, rfl⟩ := List.mem_map.mp hd; exact h.can x, fun xs => by
  show PyData.depth (.tuple (xs.map ε)) ≤ n + 1
  unfold PyData.depth
  exact Nat.succ_le_succ (depAll fun d hd => by obtain ⟨x, _, rfl⟩ := List.mem_map.mp hd; exact h.dep x)⟩
theorem Sh.L {α : Type} {ε : α → D} {n : Nat} (h : Sh ε n) : Sh (eL ε) (n + 1) := ⟨fun xs => by
  show PyData.canLayAll0 (xs.map ε) = true
  exact canAll.mpr fun d hd => by obtain ⟨x, _, rfl⟩ := List.mem_map.mp hd; exact h.can x, fun xs => by
  show PyData.depth (.list (xs.map ε)) ≤ n + 1
  unfold PyData.depth
  exact Nat.succ_le_succ (depAll fun d hd => by obtain ⟨x, _, rfl⟩ := List.mem_map.mp hd; exact h.dep x)⟩
theorem Sh.P {α β : Type} {ε : α → D} {η : β → D} {n m : Nat} (h : Sh ε n) (k : Sh η m) : Sh (eP ε η) (n + m + 1) := ⟨fun x => by
  show PyData.canLayAll0 [ε x.1, η x.2] = true
  exact canAll.mpr fun d hd => by
    simp only [List.mem_cons, List.not_mem_nil, or_false] at hd
    rcases hd with rfl | rfl
    · exact h.can _
    · exact k.can _, fun x => by
  show PyData.depth (.tuple [ε x.1, η x.2]) ≤ n + m + 1
  unfold PyData.depth
  refine Nat.succ_le_succ (depAll fun d hd => ?_)
  simp only [List.mem_cons, List.not_mem_nil, or_false] at hd
  rcases hd with rfl | rfl
  · have := h.dep x.1; omega
  · have := k.dep x.2; omega⟩
theorem Sh.shaped {α : Type} {ε : α → D} {n : Nat} (h : Sh ε n) (hn : n ≤ 64) (a : α) : SeqAt.shaped (ε a) = true := by
  unfold SeqAt.shaped
  rw [Bool.and_eq_true]
  exact ⟨h.can a, decide_eq_true (Nat.le_trans (h.dep a) hn)⟩
/-- == tells the things apart -/
def Eqv {α : Type} [DecidableEq α] (ε : α → D) : Prop := ∀ a b, PyData.eqv (ε a) (ε b) = decide (a = b)
theorem Eqv.int : Eqv PyData.int := fun a b => by show (a == b) = _; rw [Bool.beq_eq_decide_eq]
theorem Eqv.bool : Eqv PyData.bool := fun a b => by show (a == b) = _; rw [Bool.beq_eq_decide_eq]
theorem Eqv.str : Eqv PyData.str := fun a b => by show (a == b) = _; rw [Bool.beq_eq_decide_eq]
theorem Eqv.all {α : Type} [DecidableEq α] {ε : α → D} (h : Eqv ε) : ∀ xs ys : List α, PyData.eqvAll (xs.map ε) (ys.map ε) = decide (xs = ys)
  | [], [] => rfl
  | [], _ :: _ => rfl
  | _ :: _, [] => rfl
  | x :: xs, y :: ys => by
    show (PyData.eqv (ε x) (ε y) && PyData.eqvAll (xs.map ε) (ys.map ε)) = _
    rw [h x y, Eqv.all h xs ys]
    by_cases h1 : x = y <;> by_cases h2 : xs = ys <;> simp [h1, h2]
theorem Eqv.T {α : Type} [DecidableEq α] {ε : α → D} (h : Eqv ε) : Eqv (eT ε) := fun a b => h.all a b
theorem Eqv.L {α : Type} [DecidableEq α] {ε : α → D} (h : Eqv ε) : Eqv (eL ε) := fun a b => h.all a b
theorem Eqv.P {α β : Type} [DecidableEq α] [DecidableEq β] {ε : α → D} {η : β → D} (h : Eqv ε) (k : Eqv η) : Eqv (eP ε η) := fun a b => by
  show (PyData.eqv (ε a.1) (ε b.1) && (PyData.eqv (η a.2) (η b.2) && true)) = _
  rw [h, k]
  obtain ⟨a1, a2⟩ := a
  obtain ⟨b1, b2⟩ := b
  by_cases h1 : a1 = b1 <;> by_cases h2 : a2 = b2 <;> simp [h1, h2]

/-! ### parts of a computation -/
theorem obind {α β : Type} {x : Option α} {f : α → Option β} {b : β} (h : x.bind f = some b) : ∃ a, x = some a ∧ f a = some b := Option.bind_eq_some_iff.mp h
theorem oret {α : Type} {a b : α} (h : some a = some b) : a = b := Option.some.inj h
def gd (b : Bool) : Option Unit := if b then some () else none
theorem gd_ok {b : Bool} {u : Unit} (h : gd b = some u) : b = true := by
  unfold gd at h
  split at h
  · assumption
  · cases h
def oand (p : Bool) (q : Option Bool) : Option Bool := if p then q else some false
def oor (p : Bool) (q : Option Bool) : Option Bool := if p then some true else q
def onR {S ρ τ : Type} (z : S ⊕ ρ) (f : S → Option τ) (g : ρ → Option τ) : Option τ := match z with
  | .inl s => f s
  | .inr r => g r
/-- ranges that are short enough -/
def rng (lo hi : Int) : Option (List Int) := if -8388608 ≤ lo ∧ lo ≤ 8388608 ∧ -8388608 ≤ hi ∧ hi ≤ 8388608 then some (irange lo hi) else none
def rngD (hi lo : Int) : Option (List Int) := if -8388608 ≤ lo ∧ lo ≤ 8388608 ∧ -8388608 ≤ hi ∧ hi ≤ 8388608 then some (drange hi lo) else none
theorem irange_length (lo hi : Int) : (irange lo hi).length = (hi - lo).toNat := by simp [irange]
theorem rng_spec {lo hi : Int} {ks : List Int} (h : rng lo hi = some ks) : ks = irange lo hi ∧ rgOk lo = true ∧ rgOk hi = true ∧ ks.length ≤ sizeLine := by
  unfold rng at h
  split at h
  · rename_i hc
    cases h
    refine ⟨rfl, decide_eq_true (by omega), decide_eq_true (by omega), ?_⟩
    rw [irange_length, PySem.sizeLine_eq]
    omega
  · cases h
theorem rngD_spec {lo hi : Int} {ks : List Int} (h : rngD hi lo = some ks) : ks = drange hi lo ∧ rgOk hi = true ∧ rgOk lo = true ∧ ks.length ≤ sizeLine := by
  unfold rngD at h
  split at h
  · rename_i hc
    cases h
    refine ⟨rfl, decide_eq_true (by omega), decide_eq_true (by omega), ?_⟩
    simp [drange]
    rw [PySem.sizeLine_eq]
    omega
  · cases h
section
variable {X : Cx} {a b c e iter tg : Expr} {C C1 C2 C3 C' : Ct} {d d1 d2 d3 : D} {ds : List D} {pos p : Pos} {i j : Int} {x : Str} {α β γ : Type} {ε : α → D} {η : β → D} {θ : γ → D} {xs ys : List α} {P : Out → Prop} {rest : List Stmt}
/-! ### sequences -/
theorem t_catT (hz : szOk (xs.length + ys.length) = some ()) (ha : GE X a C (eT ε xs) C1) (hb : GE X b C1 (eT ε ys) C2) : GE X (.BinOp a .Add b pos) C (eT ε (xs ++ ys)) C2 := by
  have := g_catT (X := X) (pos := pos) (ds := xs.map ε) (es := ys.map ε) (by rw [List.length_map, List.length_map]; exact szOk_le hz) ha hb
  rw [← List.map_append] at this
  exact this
theorem t_catL (hz : szOk (xs.length + ys.length) = some ()) (ha : GV X a C (eL ε xs) C1) (hb : GV X b C1 (eL ε ys) C1) : GL X (.BinOp a .Add b pos) C ((xs ++ ys).map ε) C1 := by
  have := g_catL (X := X) (pos := pos) (ds := xs.map ε) (es := ys.map ε) (by rw [List.length_map, List.length_map]; exact szOk_le hz) ha hb
  rw [← List.map_append] at this
  exact this
theorem cut_map {f : α → D} {lo hi : Option Int} : cut (xs.map f) lo hi = (cut xs lo hi).map f := by
  unfold cut
  rw [List.length_map, List.map_take, List.map_drop]
theorem t_slT {lo hi : Option Expr} {kl kh : Option Int} {p2 : Pos} (ha : GE X a C (eT ε xs) C1) (hl : GO X C1 lo kl) (hh : GO X C1 hi kh) : GE X (.Subscript a (.Slice lo hi none p2) pos) C (eT ε (cut xs kl kh)) C1 := by
  have := g_slT (X := X) (pos := pos) (p2 := p2) ha hl hh
  rw [cut_map] at this
  exact this
theorem t_slL {lo hi : Option Expr} {kl kh : Option Int} {p2 : Pos} (ha : GV X a C (eL ε xs) C1) (hl : GO X C1 lo kl) (hh : GO X C1 hi kh) : GL X (.Subscript a (.Slice lo hi none p2) pos) C ((cut xs kl kh).map ε) C1 := by
  have := g_slL (X := X) (pos := pos) (p2 := p2) ha hl hh
  rw [cut_map] at this
  exact this
theorem t_revT {k : Nat} {p1 p2 p3 : Pos} (ha : GE X a C (eT ε xs) C1) : GE X (.Subscript a (.Slice none none (some (.UnaryOp .USub (.Constant (.int 1) k p1) p2)) p3) pos) C (eT ε xs.reverse) C1 := by
  have := g_revT (X := X) (pos := pos) (k := k) (p1 := p1) (p2 := p2) (p3 := p3) ha
  rw [← List.map_reverse] at this
  exact this
theorem t_revL {k : Nat} {p1 p2 p3 : Pos} (ha : GV X a C (eL ε xs) C1) : GL X (.Subscript a (.Slice none none (some (.UnaryOp .USub (.Constant (.int 1) k p1) p2)) p3) pos) C (xs.reverse.map ε) C1 := by
  have := g_revL (X := X) (pos := pos) (k := k) (p1 := p1) (p2 := p2) (p3 := p3) ha
  rw [← List.map_reverse] at this
  exact this
def repOk (n : Nat) (k : Int) : Option Unit := if n ≠ 0 ∧ n ≤ 1000 ∧ -1000 ≤ k ∧ k ≤ 1000 then some () else none
theorem repOk_spec {n : Nat} {k : Int} (h : repOk n k = some ()) : n ≠ 0 ∧ n ≤ 1000 ∧ -1000 ≤ k ∧ k ≤ 1000 := by
  unfold repOk at h
  split at h
  · assumption
  · cases h
theorem map_repT {k : Int} : (repT k xs).map ε = repT k (xs.map ε) := by
  unfold repT
  rw [List.map_flatten, List.map_replicate]
theorem t_repT {k : Int} (h : repOk xs.length k = some ()) (ha : GE X a C (eT ε xs) C1) (hb : GE X b C1 (.int k) C2) : GE X (.BinOp a .Mult b pos) C (eT ε (repT k xs)) C2 := by
  obtain ⟨h0, h1, h2, h3⟩ := repOk_spec h
  have := g_repT (X := X) (pos := pos) (ds := xs.map ε) (fun z => h0 (by rw [← List.length_map (f := ε), z]; rfl)) h2 h3 (by rw [List.length_map]; exact h1) ha hb
  rw [← map_repT] at this
  exact this
theorem t_repL {k : Int} (h : repOk xs.length k = some ()) (ha : GL X a C (xs.map ε) C1) (hb : GE X b C1 (.int k) C1) : GL X (.BinOp a .Mult b pos) C ((repT k xs).map ε) C1 := by
  obtain ⟨h0, h1, h2, h3⟩ := repOk_spec h
  have := g_repL (X := X) (pos := pos) (ds := xs.map ε) h3 h2 (by rw [List.length_map]; exact h1) ha hb
  have e : (List.replicate k.toNat (xs.map ε)).flatten = (repT k xs).map ε := (map_repT).symm
  rw [e] at this
  exact this
theorem t_ix {y : α} (hi : idx xs i = some y) (hs : sq d1 = some (xs.map ε)) (ha : GV X a C d1 C1) (hb : GE X b C1 (.int i) C1) (hp : PlainIx b := by exact fun _ _ => rfl) : GE X (.Subscript a b pos) C (ε y) C1 := g_ix hs (idx_map hi) ha hb hp
theorem t_ixE {y : α} (hi : idx xs i = some y) (hs : sq d1 = some (xs.map ε)) (ha : GE X a C d1 C1) (hb : GE X b C1 (.int i) C2) (hp : PlainIx b := by exact fun _ _ => rfl) : GE X (.Subscript a b pos) C (ε y) C2 := g_ixE hs (idx_map hi) ha hb hp
theorem t_len (hm : X.mg "len" = none) (hs : sq d1 = some (xs.map ε)) (ha : GV X a C d1 C1) (hg : Gl X "len" := by rfl) (he : starEach [a] X.env = (false, eval a X.env) :: starEach [] X.env := by rfl) : GE X (.Call (.Name "len" p) [a] [] pos) C (.int xs.length) C1 := by
  have := g_len (X := X) (p := p) (pos := pos) hm hs ha hg he
  rw [List.length_map] at this
  exact this
theorem t_sorted {k : Nat} (hr : RoomG k X.A) (hok : gd (srtOk (xs.map ε)) = some ()) (hm : X.mg "sorted" = none) (ha : GV X a C (eL ε xs) C1) (hg : Gl X "sorted" := by rfl) (he : starEach [a] X.env = (false, eval a X.env) :: starEach [] X.env := by rfl) :
    GL X (.Call (.Name "sorted" p) [a] [] pos) C ((isort (fun a b => leD (ε a) (ε b)) xs).map ε) C1 := by
  rw [isort_map (s := leD) ε (fun _ _ _ _ => rfl)]
  exact g_sorted hr (gd_ok hok) hm ha hg he
theorem zip2_map (ys : List β) : ∀ xs : List α, zip2 (xs.map ε) (ys.map η) = (xs.zip ys).map (eP ε η) := by
  intro xs
  induction xs generalizing ys with
  | nil => rfl
  | cons x xs ih => cases ys with
    | nil => rfl
    | cons y ys => show _ :: _ = _ :: _; exact congrArg _ (ih ys)
theorem zip3_map (ys : List β) (zs : List γ) : ∀ xs : List α, zip3 (xs.map ε) (ys.map η) (zs.map θ) = (xs.zip (ys.zip zs)).map (eQ ε η θ) := by
  intro xs
  induction xs generalizing ys zs with
  | nil => rfl
  | cons x xs ih => cases ys with
    | nil => rfl
    | cons y ys => cases zs with
      | nil => rfl
      | cons z zs => show _ :: _ = _ :: _; exact congrArg _ (ih ys zs)
theorem t_zip2 {ys : List β} {elts : List Expr} {kk : Nat} {tpos : Pos} (hm : X.mg "zip" = none) (ha : GE X a C d1 C1) (hb : GE X b C1 d2 C2) (h1 : sq d1 = some (xs.map ε)) (h2 : sq d2 = some (ys.map η)) (hg : Gl X "zip" := by rfl)
    (hs : starEach [a, b] X.env = (false, eval a X.env) :: starEach [b] X.env := by rfl) (hs2 : starEach [b] X.env = (false, eval b X.env) :: starEach [] X.env := by rfl) (hpl : (backTo pos (starEach [b] X.env)).any (·.1) = false := by rfl) :
    GI X (.Tuple elts kk tpos) (.Call (.Name "zip" p) [a, b] [] pos) C ((xs.zip ys).map (eP ε η)) C2 := by
  rw [← zip2_map]
  exact gi_zip2 hm ha hb h1 h2 hg hs hs2 hpl
theorem t_zip3 {ys : List β} {zs : List γ} {elts : List Expr} {kk : Nat} {tpos : Pos} (hm : X.mg "zip" = none) (ha : GE X a C d1 C1) (hb : GE X b C1 d2 C2) (hc : GE X c C2 d3 C3) (h1 : sq d1 = some (xs.map ε)) (h2 : sq d2 = some (ys.map η)) (h3 : sq d3 = some (zs.map θ)) (hg : Gl X "zip" := by rfl)
    (hs : starEach [a, b, c] X.env = (false, eval a X.env) :: starEach [b, c] X.env := by rfl) (hs2 : starEach [b, c] X.env = (false, eval b X.env) :: starEach [c] X.env := by rfl) (hs3 : starEach [c] X.env = (false, eval c X.env) :: starEach [] X.env := by rfl) (hpl : (backTo pos (starEach [b, c] X.env)).any (·.1) = false := by rfl) :
    GI X (.Tuple elts kk tpos) (.Call (.Name "zip" p) [a, b, c] [] pos) C ((xs.zip (ys.zip zs)).map (eQ ε η θ)) C3 := by
  rw [← zip3_map]
  exact gi_zip3 hm ha hb hc h1 h2 h3 hg hs hs2 hs3 hpl
theorem t_range1 {k : Int} {ks : List Int} (h : rng 0 k = some ks) (hm : X.mg "range" = none) (ha : GE X a C (.int k) C1) (hg : Gl X "range" := by rfl) (hs : starEach [a] X.env = [(false, eval a X.env)] := by rfl) : GI X tg (.Call (.Name "range" p) [a] [] pos) C (ks.map .int) C1 := by
  obtain ⟨rfl, _, h2, _⟩ := rng_spec h
  exact gi_range1 hm ha h2 hg hs
theorem t_range2 {k : Int} {ks : List Int} (h : rng j k = some ks) (hm : X.mg "range" = none) (ha : GE X a C (.int j) C1) (hb : GE X b C1 (.int k) C2) (hg : Gl X "range" := by rfl) (hs : starEach [a, b] X.env = [(false, eval a X.env), (false, eval b X.env)] := by rfl) (hs2 : starEach [b] X.env = [(false, eval b X.env)] := by rfl) :
    GI X tg (.Call (.Name "range" p) [a, b] [] pos) C (ks.map .int) C2 := by
  obtain ⟨rfl, h1, h2, _⟩ := rng_spec h
  exact gi_range2 hm ha hb h1 h2 hg hs hs2
theorem t_rangeD {k : Int} {ks : List Int} {pu : Pos} {kc : Nat} {pc : Pos} (h : rngD j k = some ks) (hm : X.mg "range" = none) (ha : GE X a C (.int j) C1) (hb : GE X b C1 (.int k) C2) (hg : Gl X "range" := by rfl)
    (hs1 : starEach [a, b, .UnaryOp .USub (.Constant (.int 1) kc pc) pu] X.env = (false, eval a X.env) :: starEach [b, .UnaryOp .USub (.Constant (.int 1) kc pc) pu] X.env := by rfl)
    (hs2 : starEach [b, .UnaryOp .USub (.Constant (.int 1) kc pc) pu] X.env = (false, eval b X.env) :: starEach [.UnaryOp .USub (.Constant (.int 1) kc pc) pu] X.env := by rfl)
    (hpl : (backTo pos (starEach [b, .UnaryOp .USub (.Constant (.int 1) kc pc) pu] X.env)).any (·.1) = false := by rfl) :
    GI X tg (.Call (.Name "range" p) [a, b, .UnaryOp .USub (.Constant (.int 1) kc pc) pu] [] pos) C (ks.map .int) C2 := by
  obtain ⟨rfl, h1, h2, _⟩ := rngD_spec h
  exact gi_rangeD hm ha hb h1 h2 hg hs1 hs2 hpl
/-! ### comparisons -/
theorem un64 {k : Nat} (hr : RoomG k X.A) : X.A.units + 64 < cLine := by have := hr.un; omega
section
variable [DecidableEq α] {u v : α} {n k : Nat}
theorem v_eqT (hE : Eqv ε) (hS : Sh ε n) (hn : n ≤ 64 := by decide) : V2 (rEqD X.K) (ε u) (ε v) (.bool (decide (u = v))) := by
  rw [← hE u v]; exact v_eq (hS.shaped hn u) (hS.shaped hn v)
theorem v_neT (hE : Eqv ε) (hS : Sh ε n) (hn : n ≤ 64 := by decide) : V2 (rNeD X.K) (ε u) (ε v) (.bool (!decide (u = v))) := by
  rw [← hE u v]; exact v_ne (hS.shaped hn u) (hS.shaped hn v)
theorem isIn_map (hE : Eqv ε) : isIn (ε u) (xs.map ε) = decide (u ∈ xs) := by
  unfold isIn
  induction xs with
  | nil => rfl
  | cons y ys ih =>
    rw [List.map_cons, List.any_cons, ih, hE]
    by_cases h1 : y = u
    · subst h1; simp
    · have h2 : ¬ u = y := fun z => h1 z.symm
      by_cases h3 : u ∈ ys <;> simp [h1, h2, h3]
theorem v_inT {dd : Decidable (u ∈ xs)} (hE : Eqv ε) (hS : Sh ε n) (hs : sq d2 = some (xs.map ε)) (hd : SeqAt.shaped d2 = true) (hn : n ≤ 63 := by decide) : V2 (rInS X.K false) (ε u) d2 (.bool (@decide (u ∈ xs) dd)) := by
  have := v_in (X := X) (neg := false) hs (hS.shaped (by omega) u) hd
  rw [isIn_map hE] at this
  have e : ∀ d' : Decidable (u ∈ xs), @decide (u ∈ xs) d' = @decide (u ∈ xs) dd := fun d' => by cases Subsingleton.elim d' dd; rfl
  rw [e] at this
  exact this
theorem v_notInT {dd : Decidable (u ∈ xs)} (hE : Eqv ε) (hS : Sh ε n) (hs : sq d2 = some (xs.map ε)) (hd : SeqAt.shaped d2 = true) (hn : n ≤ 63 := by decide) : V2 (rInS X.K true) (ε u) d2 (.bool (!@decide (u ∈ xs) dd)) := by
  have := v_in (X := X) (neg := true) hs (hS.shaped (by omega) u) hd
  rw [isIn_map hE] at this
  have e : ∀ d' : Decidable (u ∈ xs), @decide (u ∈ xs) d' = @decide (u ∈ xs) dd := fun d' => by cases Subsingleton.elim d' dd; rfl
  rw [e] at this
  exact this
end
/-! ### choices -/
theorem t_if {q : Bool} {u v : α} (hc : GT X c C q C1) (ha : GE X a C1 (ε u) C1) (hb : GE X b C1 (ε v) C1) : GE X (.IfExp c a b pos) C (ε (bif q then u else v)) C1 := by
  refine g_if hc (fun h => ?_) fun h => ?_
  · subst h; exact ha
  · subst h; exact hb
theorem t_ifO {q : Bool} {A B : Option α} {u : α} (h : (bif q then A else B) = some u) (hc : GT X c C q C1) (ha : A = some u → GE X a C1 (ε u) C1) (hb : B = some u → GE X b C1 (ε u) C1) : GE X (.IfExp c a b pos) C (ε u) C1 := by
  refine g_if hc (fun hq => ?_) fun hq => ?_
  · subst hq; exact ha h
  · subst hq; exact hb h
/-- .. with one's pool going on -/
theorem t_ifP {S : Type} {Cs : S → Ct} {q : Bool} {A B : Option (α × S)} {u : α × S} (h : (bif q then A else B) = some u) (hc : GT X c C q C1) (ha : A = some u → GE X a C1 (ε u.1) (Cs u.2)) (hb : B = some u → GE X b C1 (ε u.1) (Cs u.2)) : GE X (.IfExp c a b pos) C (ε u.1) (Cs u.2) := by
  refine g_if hc (fun hq => ?_) fun hq => ?_
  · subst hq; exact ha h
  · subst hq; exact hb h
section
variable {q q' k : Bool} {es : List Expr} {B : Option Bool}
theorem w_and (ha : GT X a C q C1) (hb : GW X (.BoolOp .And (b :: es) pos) C1 q' C1) : GW X (.BoolOp .And (a :: b :: es) pos) C (q && q') C1 := by
  refine gw_and ha (fun h => ?_) fun h => ?_
  · subst h; exact hb
  · subst h; exact ⟨rfl, rfl⟩
theorem w_or (ha : GT X a C q C1) (hb : GW X (.BoolOp .Or (b :: es) pos) C1 q' C1) : GW X (.BoolOp .Or (a :: b :: es) pos) C (q || q') C1 := by
  refine gw_or ha (fun h => ?_) fun h => ?_
  · subst h; exact hb
  · subst h; exact ⟨rfl, rfl⟩
theorem w_andO (h : oand q B = some k) (ha : GT X a C q C1) (hb : B = some k → GW X (.BoolOp .And (b :: es) pos) C1 k C1) : GW X (.BoolOp .And (a :: b :: es) pos) C k C1 := by
  refine gw_and ha (fun hq => ?_) fun hq => ?_
  · subst hq; exact hb h
  · subst hq; cases h; exact ⟨rfl, rfl⟩
theorem w_orO (h : oor q B = some k) (ha : GT X a C q C1) (hb : B = some k → GW X (.BoolOp .Or (b :: es) pos) C1 k C1) : GW X (.BoolOp .Or (a :: b :: es) pos) C k C1 := by
  refine gw_or ha (fun hq => ?_) fun hq => ?_
  · subst hq; exact hb h
  · subst hq; cases h; exact ⟨rfl, rfl⟩
theorem b_and (ha : GE X a C (.bool q) C1) (hb : GE X (.BoolOp .And (b :: es) pos) C1 (.bool q') C1) : GE X (.BoolOp .And (a :: b :: es) pos) C (.bool (q && q')) C1 := by
  refine g_and ha (fun h => ?_) fun h => ?_
  · subst h; exact hb
  · subst h; exact ⟨rfl, rfl⟩
theorem b_or (ha : GE X a C (.bool q) C1) (hb : GE X (.BoolOp .Or (b :: es) pos) C1 (.bool q') C1) : GE X (.BoolOp .Or (a :: b :: es) pos) C (.bool (q || q')) C1 := by
  refine g_or ha (fun h => ?_) fun h => ?_
  · subst h; exact hb
  · subst h; exact ⟨rfl, rfl⟩
theorem b_andO (h : oand q B = some k) (ha : GE X a C (.bool q) C1) (hb : B = some k → GE X (.BoolOp .And (b :: es) pos) C1 (.bool k) C1) : GE X (.BoolOp .And (a :: b :: es) pos) C (.bool k) C1 := by
  refine g_and ha (fun hq => ?_) fun hq => ?_
  · subst hq; exact hb h
  · subst hq; cases h; exact ⟨rfl, rfl⟩
theorem b_orO (h : oor q B = some k) (ha : GE X a C (.bool q) C1) (hb : B = some k → GE X (.BoolOp .Or (b :: es) pos) C1 (.bool k) C1) : GE X (.BoolOp .Or (a :: b :: es) pos) C (.bool k) C1 := by
  refine g_or ha (fun hq => ?_) fun hq => ?_
  · subst hq; exact hb h
  · subst hq; cases h; exact ⟨rfl, rfl⟩
end
theorem gs_ifC {ρ : Type} {A B : List Stmt} {k : Bool} {U W : Option ρ} {r : ρ} (h : (bif k then U else W) = some r) (hc : GT X c C k C1) (ht : U = some r → GS X A C1 (Thn X rest P)) (hf : W = some r → GS X B C1 (Thn X rest P)) : GS X (.If c A B pos :: rest) C P := by
  refine gs_if hc (fun hq => ?_) fun hq => ?_
  · subst hq; exact ht h
  · subst hq; exact hf h
theorem gs_ifJ {S : Type} {A B : List Stmt} {k : Bool} {U W : Option S} {s : S} {Cj : S → Ct} (h : (bif k then U else W) = some s) (hc : GT X c C k C1) (ht : U = some s → GS X A C1 (fun o => o = .nx (Cj s))) (hf : W = some s → GS X B C1 (fun o => o = .nx (Cj s))) (hr : GS X rest (Cj s) P) : GS X (.If c A B pos :: rest) C P := by
  refine gs_if hc (fun hq => ?_) fun hq => ?_
  · subst hq; exact (ht h).imp fun o ho => by subst ho; exact hr
  · subst hq; exact (hf h).imp fun o ho => by subst ho; exact hr
theorem ret_rt {d : D} {o : Out} (h : Ret (fun o => ∃ C', o = .rt d C') o) : ∃ C', o = .rt d C' := by
  cases o with
  | nx _ => exact h.elim
  | rt _ _ => exact h
  | rn _ _ => exact h
theorem ret_of {Q : Out → Prop} {o : Out} (h : Ret Q o) : Q o := by
  cases o with
  | nx _ => exact h.elim
  | rt _ _ => exact h
  | rn _ _ => exact h
/-! ### own things -/
def noOwnB (C : Ct) (vs : List Nat) : Bool := vs.all fun i => match C[i]? with
  | some s => !s.own
  | none => true
theorem NoOwn.by {C : Ct} {vs : List Nat} (h : noOwnB C vs = true) : NoOwn C vs := fun i hi s e => by
  have := List.all_eq_true.mp h i hi
  rw [e] at this
  simpa using this
/-! ### comprehensions -/
theorem lcF_map {f : α → β} : ∀ {xs : List α}, lcF (fun x => some (some (f x))) xs = some (xs.map f)
  | [] => rfl
  | x :: xs => by unfold lcF; rw [lcF_map]; rfl
theorem lcF_filter {f : α → β} {p : α → Bool} : ∀ {xs : List α}, lcF (fun x => some (bif p x then some (f x) else none)) xs = some ((xs.filter p).map f)
  | [] => rfl
  | x :: xs => by
    unfold lcF
    rw [lcF_filter]
    cases h : p x with
    | true => simp [h]
    | false => simp [h]
end
end G
/-! G14: more rules for typed data: the pool of draws, freezing, appends, turns. -/
namespace G
open PySem L2 PyProof.Rows
/-- the pool of draws -/
structure Pool where
  cells : List Int
  at_ : Int
  cur : Int
  turn : Int
  salt : Int
abbrev ePool (p : Pool) : List D := [.list (p.cells.map .int), .int p.at_, .int p.cur, .int p.turn, .int p.salt]
section
variable {X : Cx} {a b c e iter tg elt : Expr} {scope : Scope} {C C1 C2 C3 C' Ci Co Cx Cx1 : Ct} {d d1 d2 d3 : D} {ds : List D} {pos p : Pos} {i j : Int} {x : Str} {α β γ : Type} {ε : α → D} {η : β → D} {θ : γ → D} {xs ys : List α} {P : Out → Prop} {rest : List Stmt} {vs : List Nat}
theorem gs_frz {st : List Stmt} (i : Nat) (hC : C[i]? = some (.ol ds)) (h : GS X st (C.set i (.sh (.list ds))) P) : GS X st C P := fun F H σ D' S q => by
  obtain ⟨p, vs, e, h1, h2, h3⟩ := S.sl i _ hC
  have ee : Ext F (upd F p (.lst vs)) := Ext.new h3
  have r' : R (upd F p (.lst vs)) (.ref p) (.list ds) := .lst (.of upd_same) (h2.mono ee)
  have op : Own σ C p := ⟨i, _, hC, rfl, e⟩
  have S1 : Sat F H σ (C.set i .any) := S.re rfl trivial
  have S2 := S1.freeze h3 h1 (S.off hC rfl e rfl)
  have S3 : Sat (upd F p (.lst vs)) H σ ((C.set i .any).set i (.sh (.list ds))) := S2.re rfl ⟨_, e, r'⟩
  rw [List.set_set] at S3
  have st : Stp F H (Own σ C) (upd F p (.lst vs)) H (Own σ (C.set i (.sh (.list ds)))) := ⟨ee, (fun a u h n => ⟨fun _ => h, fun o => n (o.set_sh rfl), fun z => by
    have ne : a ≠ p := fun y => n (y ▸ op)
    rw [upd_ne ne]; exact z⟩), fun _ h => h, fun t => t.new h3 (by intro _ z; cases z)⟩
  exact h _ H σ D' S3 fun o ho => (q o ho).step st
/-! ### lists of one's own -/
theorem t_append (i : Nat) {y : α} {apos : Pos} (hz : szOk (xs.length + 1) = some ()) (hC : C[i]? = some (.ol (xs.map ε))) (h : GE X e C (ε y) C1) (hC1 : C1[i]? = some (.ol (xs.map ε))) (hN : X.N[i]? = some x := by rfl) (hv : Vis X.env.scope x := by first | exact Or.inl rfl | exact Or.inr (Or.inl rfl) | exact Or.inr (Or.inr rfl))
    (hd : (x == ("__debug__" : Str)) = false := by decide) (hcd : (x == ("__classdict__" : Str)) = false := by decide) (he : starEach [e] X.env = (false, eval e X.env) :: starEach [] X.env := by rfl)
    (hfew : ((backTo pos (starEach [e] X.env)).all (fun x => !x.1) && (backToKw pos (keywordEach [] X.env)).all (fun x => x.1.isSome) && decide (([e] : List Expr).length + ([] : List Keyword).length + (if ([] : List Keyword).isEmpty then 0 else 1) < 30)) = true := by rfl)
    (hbase : attributeBase (.Name x p) "append" X.env (eval (.Name x p) X.env) = eval (.Name x p) X.env := by rfl) (hline : (apos.endLine == pos.line) = true := by rfl) :
    GE X (.Call (.Attribute (.Name x p) "append" apos) [e] [] pos) C .none (C1.set i (.ol ((xs ++ [y]).map ε))) := by
  have hz' := szOk_le hz
  have := g_append (X := X) (p := p) (pos := pos) (apos := apos) (s := .ol (xs.map ε)) i hC rfl h hC1 (by rw [List.length_map]; omega) hN hv hd hcd he hfew hbase hline
  rw [List.map_append]
  exact this
theorem t_setIx (i : Nat) {n : Int} {k : Nat} {y : α} {p2 p3 : Pos} (hk : ixN xs.length n = some k) (h : GE X e C (ε y) C1) (hC1 : C1[i]? = some (.ol (xs.map ε))) (hb : GE X b C1 (.int n) C1) (hr : GS X rest (C1.set i (.ol ((xs.set k y).map ε))) P)
    (hN : X.N[i]? = some x := by rfl) (hv : Vis X.env.scope x := by first | exact Or.inl rfl | exact Or.inr (Or.inl rfl) | exact Or.inr (Or.inr rfl)) (hd : (x == ("__debug__" : Str)) = false := by decide) (hcd : (x == ("__classdict__" : Str)) = false := by decide)
    (ha : ∀ v, assign (.Subscript (.Name x p2) b p3) X.env v = (do
      let ov ← holding [v] (eval (.Name x p2) X.env)
      let iv ← holding [v, ov] (eval b X.env)
      standAt p3
      holding [v, ov, iv] (setItem ov iv v)
      release [v, ov, iv] []) := by intro _; rfl)
    (hw : swapsWithSole [.Subscript (.Name x p2) b p3] e pos.line X.env = pure false := by rfl) (hsw : swappedStores [.Subscript (.Name x p2) b p3] e X.env = pure none := by rfl)
    (h1 : (assignEach [.Subscript (.Name x p2) b p3] X.env).map (·.2) = [assign (.Subscript (.Name x p2) b p3) X.env] := by rfl) : GS X (.Assign [.Subscript (.Name x p2) b p3] e pos :: rest) C P := by
  refine gs_setIx (s := .ol (xs.map ε)) i h hC1 rfl hb (by rw [List.length_map]; exact hk) ?_ hN hv hd hcd ha hw hsw h1
  rw [← List.map_set]
  exact hr
theorem GE.cast {u v : α} (h : some u = some v) (g : GE X e C (ε u) C1) : GE X e C (ε v) C1 := Option.some.inj h ▸ g
theorem GL.cast {us vs : List α} (h : some us = some vs) (g : GL X e C (us.map ε) C1) : GL X e C (vs.map ε) C1 := Option.some.inj h ▸ g
theorem gs_re {st : List Stmt} (C' : Ct) (h : C = C') (g : GS X st C' P) : GS X st C P := h ▸ g
/-! ### turns with a test -/
theorem turn_if {k : Bool} {is : List Nat} {U : Option (Option β)} {o : Option β} (h : (bif k then U else some none) = some o) (hg : ∀ B, GG (bx X scope B) tg is d (hid Ci vs) Cx) (ht : ∀ B, GT (bx X scope B) c Cx k Cx1)
    (he : U = some o → ∃ z Cx2, o = some z ∧ (∀ B, GE (bx X scope B) elt Cx1 (η z) Cx2) ∧ hid Cx2 vs = hid Co vs) (hs : ∀ i ∈ is, i ∈ vs := by decide) (hh : hid Cx1 vs = hid Co vs := by rfl) : Turn1 X scope tg [c] elt vs Ci d (o.map η) Co := by
  cases k with
  | true =>
    obtain ⟨z, Cx2, rfl, h1, h2⟩ := he h
    exact turn_yes hg ht h1 hs h2
  | false =>
    cases h
    exact turn_no hg ht hs hh
/-! ### chains -/
theorem t_chain {op op' : CmpOp} {r r' : R2} {k k' : Bool} (ho : OpR X (compareOp op) r) (ho' : OpR X (compareOp op') r') (ha : GE X a C d1 C1) (hb : GE X b C1 d2 C2) (h1 : V2 r d1 d2 (.bool k)) (hc : GE X c C2 d3 C2) (h2 : V2 r' d2 d3 (.bool k'))
    (hm : lastMarks [op, op'] [b, c] = false := by rfl) : GE X (.Compare a [op, op'] [b, c] pos) C (.bool (k && k')) C2 :=
  g_chain (k' := k && k') ho ho' ha hb h1 (fun _ => hc) (fun h => by rw [h]; exact h2) (fun h => by rw [h]; rfl) hm
theorem w_chain {op op' : CmpOp} {r r' : R2} {k k' : Bool} (ho : OpR X (compareOp op) r) (ho' : OpR X (compareOp op') r') (ha : GE X a C d1 C1) (hb : GE X b C1 d2 C2) (h1 : V2 r d1 d2 (.bool k)) (hc : GE X c C2 d3 C2) (h2 : V2 r' d2 d3 (.bool k'))
    (hm : lastMarks [op, op'] [b, c] = false := by rfl) : GT X (.Compare a [op, op'] [b, c] pos) C (k && k') C2 :=
  gt_chain (k' := k && k') ho ho' ha hb h1 (fun _ => hc) (fun h => by rw [h]; exact h2) (fun h => by rw [h]; rfl) hm
theorem v_eqS {s t : Str} : V2 rEq (.str s) (.str t) (.bool (decide (s = t))) := fun F H v1 v2 e r1 r2 Q q => by
  cases r1.str; cases r2.str
  refine ⟨rfl, ?_⟩
  rw [show decide (V.str s = V.str t) = decide (s = t) by simp]
  exact q _ F H (.refl e) (.bl _)
theorem v_neS {s t : Str} : V2 rNe (.str s) (.str t) (.bool (!decide (s = t))) := fun F H v1 v2 e r1 r2 Q q => by
  cases r1.str; cases r2.str
  refine ⟨rfl, ?_⟩
  rw [show decide (V.str s = V.str t) = decide (s = t) by simp]
  exact q _ F H (.refl e) (.bl _)
theorem v_eqB {s t : Bool} : V2 rEq (.bool s) (.bool t) (.bool (decide (s = t))) := fun F H v1 v2 e r1 r2 Q q => by
  cases r1.bool; cases r2.bool
  refine ⟨rfl, ?_⟩
  rw [show decide (V.bl s = V.bl t) = decide (s = t) by simp]
  exact q _ F H (.refl e) (.bl _)
theorem v_neB {s t : Bool} : V2 rNe (.bool s) (.bool t) (.bool (!decide (s = t))) := fun F H v1 v2 e r1 r2 Q q => by
  cases r1.bool; cases r2.bool
  refine ⟨rfl, ?_⟩
  rw [show decide (V.bl s = V.bl t) = decide (s = t) by simp]
  exact q _ F H (.refl e) (.bl _)
/-! ### data that turn out to be whole numbers, sequences -/
def toI : D → Option Int
  | .int i => some i
  | _ => none
theorem GE.toI {i : Int} (h : toI d = some i) (g : GE X e C d C1) : GE X e C (.int i) C1 := by
  cases d with
  | int j => cases h; exact g
  | _ => cases h
def toB : D → Option Bool
  | .bool i => some i
  | _ => none
theorem GE.toB {i : Bool} (h : toB d = some i) (g : GE X e C d C1) : GE X e C (.bool i) C1 := by
  cases d with
  | bool j => cases h; exact g
  | _ => cases h
def toS : D → Option Str
  | .str i => some i
  | _ => none
theorem GE.toS {i : Str} (h : toS d = some i) (g : GE X e C d C1) : GE X e C (.str i) C1 := by
  cases d with
  | str j => cases h; exact g
  | _ => cases h
theorem gi_seq (hs : sq d = some ds) (g : GE X e C d C1) : GI X tg e C ds C1 := by
  cases d with
  | list _ => cases hs; exact gi_list g
  | tuple _ => cases hs; exact gi_tup g
  | _ => cases hs
def gdS (a b : D) : Option Unit := gd (SeqAt.shaped a && SeqAt.shaped b)
theorem v_eqG (h : gdS d1 d2 = some ()) : V2 (rEqD X.K) d1 d2 (.bool (PyData.eqv d1 d2)) := by
  have := Bool.and_eq_true_iff.mp (gd_ok h)
  exact v_eq this.1 this.2
theorem v_neG (h : gdS d1 d2 = some ()) : V2 (rNeD X.K) d1 d2 (.bool (!PyData.eqv d1 d2)) := by
  have := Bool.and_eq_true_iff.mp (gd_ok h)
  exact v_ne this.1 this.2
theorem g_tuple' (hs : sq d1 = some ds) (hm : X.mg "tuple" = none) (ha : GV X a C d1 C1) (hg : Gl X "tuple" := by rfl) (he : starEach [a] X.env = (false, eval a X.env) :: starEach [] X.env := by rfl) : GE X (.Call (.Name "tuple" p) [a] [] pos) C (.tuple ds) C1 := g_tuple hs hm ha hg he
/-- a slice of any sequence of the type D -/
def szL {α : Type} (xs : List α) : Option Unit := szOk xs.length
theorem szL_le {xs : List α} {u : Unit} (h : szL xs = some u) : xs.length ≤ sizeLine := szOk_le h
end
/-! ### bodies of defs -/
section
variable {cs : List (Addr × Addr)} {P : Program} {w : World} {K : PySem.W.Frag} {mg : Str → Option Value} {base : Heap} {x : Str} {st : Stmt} {f : Addr} {fd : FuncData} {N ps : List Str} {k n : Nat}
/-- a def that never comes back by a value: the end of its block -/
theorem ok_fn0 {M : List D → D → Prop} (F : FnP K x st f fd) (S : FnScope N ps (defScope st)) (hn : ps.length = n) (hN : n ≤ N.length)
    (hb : ∀ (cdv : Value) (A : Around) (outer : List Env) (s : Shared) (H : Hp) (E : XK), RoomG k (A.deeper (envOfC x (defScope st) s.heap.objs.size f cdv)) → TbIn cs H → ∀ ds d, M ds d → ds.length = n →
      d = .none ∧ GS (Cx0 P w K mg base N x (defScope st) f cdv A outer s H E) (defBody st) (C0 N ds) (fun o => (∃ C', o = .nx C') ∨ ∃ C', o = .rt .none C')) : FnOkG cs P w K mg base CX0 (k + 1) f fd ps (spF n M) := by
  refine funD_okG F S (fun vs H Q E h => ?_) (fun cdv A outer s H vs Q E hr ht _ h => ⟨_, PSs.nox pss_wp, ?_⟩)
  · obtain ⟨_, _, _, h, _⟩ := h
    rw [h, hn]
  · obtain ⟨F0, ds, d, hl, e, r, hM, q⟩ := h
    obtain ⟨rfl, hb⟩ := hb cdv A outer s H E hr ht ds d hM (by rw [← r.length, hl])
    refine hb F0 H (L2.start N vs) _ (sat_start e r (by rw [hl]; exact hN)) fun o ho => ?_
    rcases ho with ⟨C', rfl⟩ | ⟨C', rfl⟩
    · exact fun F' H' σ' s1 S1 => q .non F' H' (s1.xs (fun a => no_own_start) S1.ex) .non
    · exact fun v F' H' σ' s1 S1 r1 => q v F' H' (s1.xs (fun a => no_own_start) S1.ex) r1
end
end G
/-! G15: the script; the law's def. -/
namespace G
open PySem L2 PyProof.Rows
/-- the script handed in -/
def klS (K : PySem.W.Frag) (ds : List D) : SSpec := ⟨fun F v => ∃ a xs, v = .ref a ∧ (Rd F a (.lst xs) ∨ ∀ H, SqL K H a xs) ∧ RA F xs ds, fun e ⟨a, xs, h1, h2, h3⟩ => ⟨a, xs, h1, h2.imp e.rd id, h3.mono e⟩⟩
section
variable {X : Cx} {a b c e : Expr} {C C1 C2 : Ct} {d : D} {ds : List D} {pos p p2 : Pos} {x : Str} {α : Type} {ε : α → D} {xs : List α}
theorem kl_sql {F H : Hp} {a : Addr} {vs : List V} (e : Ext F H) (h : Rd F a (.lst vs) ∨ ∀ H, SqL X.K H a vs) : SqL X.K H a vs := h.elim (fun h => .inl (e.rd h)) fun h => h H
theorem t_slK (i : Nat) {lo hi : Option Expr} {kl kh : Option Int} (hC : C[i]? = some (.sp (klS X.K (xs.map ε)))) (hl : GO X C lo kl) (hh : GO X C hi kh) (hN : X.N[i]? = some x := by rfl) (hv : Vis X.env.scope x := by first | exact Or.inl rfl | exact Or.inr (Or.inl rfl) | exact Or.inr (Or.inr rfl)) (hd : (x == ("__debug__" : Str)) = false := by decide)
    (hcd : (x == ("__classdict__" : Str)) = false := by decide) : GL X (.Subscript (.Name x p) (.Slice lo hi none p2) pos) C ((cut xs kl kh).map ε) C := fun F H σ S Q q => by
  refine wpE_of (pe_slice sl_list (pe_var hN hv hd hcd) po_oo po_oo) ?_
  obtain ⟨_, e0, a, vs, rfl, hk, r⟩ := S.sl i _ hC
  refine ⟨_, e0, ?_⟩
  refine hl.run S fun F2 H2 s2 S2 => hh.run S2 fun F3 H3 s3 S3 => ?_
  refine ⟨a, vs, rfl, kl_sql S3.ex (hk.imp (fun h => s3.e.rd (s2.e.rd h)) id), fun p hp => GL.of q (s2.trans s3) S3 hp ?_⟩
  rw [← cut_map]
  exact ((r.mono s2.e).mono s3.e).cut
theorem t_listK (i : Nat) (hC : C[i]? = some (.sp (klS X.K (xs.map ε)))) (hm : X.mg "list" = none) (hN : X.N[i]? = some x := by rfl) (hv : Vis X.env.scope x := by first | exact Or.inl rfl | exact Or.inr (Or.inl rfl) | exact Or.inr (Or.inr rfl)) (hd : (x == ("__debug__" : Str)) = false := by decide)
    (hcd : (x == ("__classdict__" : Str)) = false := by decide) (hg : Gl X "list" := by rfl) (he : starEach [.Name x p2] X.env = (false, eval (.Name x p2) X.env) :: starEach [] X.env := by rfl) (hpl : (backTo pos (starEach [] X.env)).any (·.1) = false := by rfl) :
    GL X (.Call (.Name "list" p) [.Name x p2] [] pos) C (xs.map ε) C := fun F H σ S Q q => by
  refine wpE_of (pe_callTy call_list_of hg hm (by decide +kernel) (pa_cons (pe_var hN hv hd hcd) pa_nil he) (by decide) (by decide) he hpl) ?_
  obtain ⟨_, e0, a, vs, rfl, hk, r⟩ := S.sl i _ hC
  exact ⟨_, e0, a, vs, rfl, .inl (kl_sql S.ex hk), fun l hl => GL.of q .refl S hl r⟩
end
/-- the script handed in, a new list given back -/
def spK (K : PySem.W.Frag) (M : List D → List D → Prop) : Sp := fun vs H Q _ => ∃ F a xs ds es, vs = [.ref a] ∧ Ex2 F H ∧ (Rd F a (.lst xs) ∨ ∀ H, SqL K H a xs) ∧ RA F xs ds ∧ M ds es ∧ ∀ p us F' H', XS F H F' H' → H p = none → H' p = some (.lst us) → F' p = none → RA F' us es → Q (.ref p) H'
/-- the script handed in, a value given back -/
def spKv (K : PySem.W.Frag) (M : List D → D → Prop) : Sp := fun vs H Q _ => ∃ F a xs ds d, vs = [.ref a] ∧ Ex2 F H ∧ (Rd F a (.lst xs) ∨ ∀ H, SqL K H a xs) ∧ RA F xs ds ∧ M ds d ∧ ∀ v F' H', XS F H F' H' → R F' v d → Q v H'
section
variable {cs : List (Addr × Addr)} {P : Program} {w : World} {K : PySem.W.Frag} {mg : Str → Option Value} {base : Heap} {x : Str} {st : Stmt} {f : Addr} {fd : FuncData} {N ps : List Str} {k n : Nat}
def CK0 (K : PySem.W.Frag) (N : List Str) (ds : List D) : Ct := .sp (klS K ds) :: List.replicate (N.length - 1) .any
theorem ck_own {ds : List D} {i : Nat} {s : Sl} (h : (CK0 K N ds)[i]? = some s) : s.own = false := by
  cases i with
  | zero => cases h; rfl
  | succ i =>
    have h : (List.replicate (N.length - 1) Sl.any)[i]? = some s := h
    have := List.mem_of_getElem? h
    rw [List.mem_replicate] at this
    rw [this.2]; rfl
theorem sat_startK {F H : Hp} {a : Addr} {xs : List V} {ds : List D} (e : Ex2 F H) (hk : Rd F a (.lst xs) ∨ ∀ H, SqL K H a xs) (r : RA F xs ds) (h : 1 ≤ N.length) : Sat F H (L2.start N [.ref a]) (CK0 K N ds) := by
  refine ⟨e.ex, ?_, fun i s h => ?_, (fun i j s t a h1 h2 h3 h4 h5 h6 => by rw [ck_own h1] at h3; cases h3), e.tb⟩
  · unfold CK0 L2.start
    simp
  · cases i with
    | zero => cases h; exact ⟨_, rfl, a, xs, rfl, hk, r⟩
    | succ i =>
      have h : (List.replicate (N.length - 1) Sl.any)[i]? = some s := h
      have := List.mem_of_getElem? h
      rw [List.mem_replicate] at this
      rw [this.2]
      trivial
theorem ck_no {σ : L2.St} {ds : List D} {a : Addr} : ¬ Own σ (CK0 K N ds) a := fun ⟨i, s, h, h2, _⟩ => by rw [ck_own h] at h2; cases h2
theorem ok_fnK {M : List D → List D → Prop} (F : FnP K x st f fd) (S : FnScope N ps (defScope st)) (hn : ps.length = 1) (hN : 1 ≤ N.length)
    (hb : ∀ (cdv : Value) (A : Around) (outer : List Env) (s : Shared) (H : Hp) (E : XK), RoomG k (A.deeper (envOfC x (defScope st) s.heap.objs.size f cdv)) → TbIn cs H → ∀ ds es, M ds es →
      GS (Cx0 P w K mg base N x (defScope st) f cdv A outer s H E) (defBody st) (CK0 K N ds) (fun o => ∃ C', o = .rn es C')) : FnOkG cs P w K mg base CX0 (k + 1) f fd ps (spK K M) := by
  refine funD_okG F S (fun vs H Q E h => ?_) (fun cdv A outer s H vs Q E hr ht _ h => ⟨_, PSs.nox pss_wp, ?_⟩)
  · obtain ⟨_, _, _, _, _, rfl, _⟩ := h
    rw [hn]; rfl
  · obtain ⟨F0, a, xs, ds, es, rfl, e, hk, r, hM, q⟩ := h
    refine hb cdv A outer s H E hr ht ds es hM F0 H (L2.start N [.ref a]) _ (sat_startK e hk r hN) fun o ho => ?_
    obtain ⟨C', rfl⟩ := ho
    exact fun p us F' H' σ' s1 S1 h1 h2 h3 h4 h5 => q p us F' H' (s1.xs (fun a => ck_no) S1.ex) h1 h2 h4 h3
theorem ok_fnKv {M : List D → D → Prop} (F : FnP K x st f fd) (S : FnScope N ps (defScope st)) (hn : ps.length = 1) (hN : 1 ≤ N.length)
    (hb : ∀ (cdv : Value) (A : Around) (outer : List Env) (s : Shared) (H : Hp) (E : XK), RoomG k (A.deeper (envOfC x (defScope st) s.heap.objs.size f cdv)) → TbIn cs H → ∀ ds d, M ds d →
      GS (Cx0 P w K mg base N x (defScope st) f cdv A outer s H E) (defBody st) (CK0 K N ds) (fun o => ∃ C', o = .rt d C')) : FnOkG cs P w K mg base CX0 (k + 1) f fd ps (spKv K M) := by
  refine funD_okG F S (fun vs H Q E h => ?_) (fun cdv A outer s H vs Q E hr ht _ h => ⟨_, PSs.nox pss_wp, ?_⟩)
  · obtain ⟨_, _, _, _, _, rfl, _⟩ := h
    rw [hn]; rfl
  · obtain ⟨F0, a, xs, ds, d, rfl, e, hk, r, hM, q⟩ := h
    refine hb cdv A outer s H E hr ht ds d hM F0 H (L2.start N [.ref a]) _ (sat_startK e hk r hN) fun o ho => ?_
    obtain ⟨C', rfl⟩ := ho
    exact fun v F' H' σ' s1 S1 r1 => q v F' H' (s1.xs (fun a => ck_no) S1.ex) r1
/-- the law's promise, from what its def computes -/
theorem spKv_law {M : List D → D → Prop} {H : Hp} {a : Addr} {ns : List Int} (hM : M (ns.map .int) (.bool true)) (hE : ∀ P ps, H P = some (.tbl ps) → ps = #[]) (hS : SqL K H a (ns.map V.int)) : spKv K M [.ref a] H (fun v _ => v = .bl true) (fun _ _ _ => False) := by
  have hT : ∀ F : Hp, (∀ a ps, F a ≠ some (.tbl ps)) → TbOk F H := fun F hF => ⟨hF, fun P ps h => by
    rw [hE P ps h]
    exact ⟨True.intro, fun pos cv z => by simp [codeAmong] at z⟩⟩
  have ri : ∀ {F : Hp} (ns : List Int), RA F (ns.map V.int) (ns.map .int) := fun {F} ns => by
    induction ns with
    | nil => exact .nil
    | cons n ns ih => exact .cons (.int n) ih
  rcases hS with hS | ⟨o, its, n, h1, h2, h3, h4, h5, h6⟩
  · refine ⟨fun b => if b = a then H b else none, a, ns.map V.int, ns.map .int, .bool true, rfl, ⟨fun b u h => ?_, hT _ fun b ps h => ?_⟩, .inl ?_, ri ns, hM, fun v F' H' x r => by cases r; rfl⟩
    · by_cases e : b = a
      · have h : (if b = a then H b else none) = some u := h
        rw [if_pos e] at h; exact h
      · have h : (if b = a then H b else none) = some u := h
        rw [if_neg e] at h; cases h
    · have h : (if b = a then H b else none) = some (.tbl ps) := h
      by_cases e : b = a
      · rw [if_pos e] at h
        rw [e] at h
        rcases hS with z | ⟨o, z⟩ <;> (rw [h] at z; injection z with z; cases z)
      · rw [if_neg e] at h; cases h
    · rcases hS with z | ⟨o, z⟩
      · exact .inl ((if_pos rfl).trans z)
      · exact .inr ⟨o, (if_pos rfl).trans z⟩
  · refine ⟨fun _ => none, a, ns.map V.int, ns.map .int, .bool true, rfl, ⟨(fun _ _ h => nomatch h), hT _ fun _ _ h => nomatch h⟩, .inr fun H' => .inr ⟨o, its, n, h1, h2, h3, h4, h5, h6⟩, ri ns, hM, fun v F' H' x r => ?_⟩
    cases r; rfl
end
section
variable {cs : List (Addr × Addr)} {X : Cx} {a e : Expr} {es : List Expr} {C C1 : Ct} {d : D} {ds : List D} {pos p pp : Pos} {x y : Str} {j k n : Nat}
theorem g_callK (i : Nat) {es' : List D} {M : List D → List D → Prop} (c : CalG cs X.prog X.w X.K X.mg X.base k x (spK X.K M) []) (hr : RoomG j X.A) (ht : TbIn cs X.H_0) (hM : M ds es') (hC : C[i]? = some (.sp (klS X.K ds))) (hk : k ≤ j := by decide) (hg : Gl X x := by rfl) (hN : X.N[i]? = some y := by rfl) (hv : Vis X.env.scope y := by first | exact Or.inl rfl | exact Or.inr (Or.inl rfl) | exact Or.inr (Or.inr rfl)) (hd : (y == ("__debug__" : Str)) = false := by decide) (hcd : (y == ("__classdict__" : Str)) = false := by decide)
    (hdb : (x == ("__debug__" : Str)) = false := by decide) (he : starEach [.Name y pp] X.env = (false, eval (.Name y pp) X.env) :: starEach [] X.env := by rfl) (hpl : (backTo pos (starEach [] X.env)).any (·.1) = false := by rfl) :
    GL X (.Call (.Name x p) [.Name y pp] [] pos) C es' C := fun F H σ S Q q => by
  refine wpE_of (pe_cG c hr ht hk hg (pa_cons (pe_var hN hv hd hcd) pa_nil he) hdb he hpl) ?_
  obtain ⟨_, e0, a, vs, rfl, hkk, r⟩ := S.sl i _ hC
  refine ⟨_, e0, F, a, vs, ds, es', rfl, S.e2, hkk, r, hM, fun p us F' H' x h1 h2 h3 h4 => q p us F' H' x.stp (S.xs x) h1 h2 h4 h3 fun o => ?_⟩
  obtain ⟨⟨u, z⟩, _⟩ := o.at S
  rw [h1] at z; cases z
end
end G
/-! G16: enumerate, max with a default, list items changed by place, extend. -/
namespace G
open PySem L2 PyProof.Rows
/-! ### enumerate of a list, a tuple -/
set_option maxHeartbeats 1000000 in
theorem meets_enum1 {v : Value} {o : Obj} {H : Heap → Prop} (B : Begins v o H) :
    Meets (Builtin.«enumerate.__new__» ⟨[.type "enumerate", v], []⟩) (fun _ R s => H s.heap ∧
      R (.ok (.ret (.ref (s.heap.push o).objs.size))) { s with heap := (s.heap.push o).push { cls := .type "enumerate", data := .fields #[.none, .bool false, .ref s.heap.objs.size, rawInt 0, .none, .none] } }) :=
  .of_wp fun prog w A R s h => by
    obtain ⟨hp, g, d, tk, os⟩ := s
    obtain ⟨h1, h⟩ := h
    have sb := sub_enumerate
    have qq : ∀ {A' : Around} {E : Value → Shared → Prop} {Q : Value → Shared → Prop}, Q (.ref hp.objs.size) ⟨hp.push o, g, d, tk, os⟩ → wpAny (model prog w) A' (pyIter v) Q E ⟨hp, g, d, tk, os⟩ := fun q => B.iter prog w _ _ ⟨hp, g, d, tk, os⟩ _ h1 q
    wp_walk using qq
    refine wpAny_stack_any fun st => wpAny_pure ?_
    split
    · rename_i c _ _ _ _ _
      cases (c == Value.type "enumerate") <;> (wp_walk using qq; exact ⟨_, rfl, h⟩)
    · wp_walk using qq
      exact ⟨_, rfl, h⟩
theorem enum1 {prog : Program} {w : World} {A : Around} {E : Value → Shared → Prop} {s : Shared} {v : Value} {o : Obj} {H : Heap → Prop} {Q : Value → Shared → Prop} (B : Begins v o H) (h1 : H s.heap)
    (h : ∀ h', IsEnum h' (s.heap.objs.size + 1) s.heap.objs.size 0 .none → h'.get? s.heap.objs.size = some o → (∀ b o, s.heap.get? b = some o → h'.get? b = some o) → Q (.ref (s.heap.objs.size + 1)) { s with heap := h' }) :
    wpAny (model prog w) A (call (.type "enumerate") [v]) Q E s := by
  refine callType_new F.called_enumerate (by decide) (F.typeCall_enumerate_1 _) (F.newCall_enumerate_1 _) (fun obj => F.args_object_init_2 obj _) F.entry_enumerate_new (meets_enum1 B) ⟨h1, ?_⟩
  have hz : (s.heap.push o).objs.size = s.heap.objs.size + 1 := Heap.size_push ..
  show _ ∧ _
  rw [hz]
  have he : IsEnum ((s.heap.push o).push { cls := .type "enumerate", data := .fields #[.none, .bool false, .ref s.heap.objs.size, rawInt 0, .none, .none] }) (s.heap.objs.size + 1) s.heap.objs.size 0 .none := by
    have := Heap.get?_push_size (s.heap.push o) (o := { cls := .type "enumerate", data := .fields #[.none, .bool false, .ref s.heap.objs.size, rawInt 0, .none, .none] }) rfl
    rw [hz] at this; exact this
  exact ⟨⟨_, he, rfl⟩, h _ he (Heap.get?_push_of_some _ (Heap.get?_push_size _ B.free)) fun b o x => Heap.get?_push_of_some _ (Heap.get?_push_of_some _ x)⟩
def ItE (K : PySem.W.Frag) (k1 : Bool) (a : Addr) : It :=
  ⟨fun i H => ∃ (xs : List V) (x : V), SK K k1 H a xs ∧ xs[i]? = some x,
    fun i H v H' => ∃ T x, v = .ref T ∧ H T = none ∧ H' = upd H T (.tup [.int (i : Nat), x]) ∧ ∀ xs, SK K k1 H a xs → xs[i]? = some x,
    fun i H => ∃ xs : List V, SK K k1 H a xs ∧ i = xs.length⟩
theorem turn_enumK {P : Program} {w : World} {K : PySem.W.Frag} {elts : List Expr} {kk : Nat} {tpos : Pos} {a z i1 : Addr} {k1 : Bool} (hz1 : z ≠ i1) (hza : z ≠ a) :
    Turn P w K (.Tuple elts kk tpos) (ItE K k1 a) [z, i1] z (fun i h => (∃ old, IsEnum h z i1 ((i : Nat) : Int) old) ∧ IK k1 h i1 a i) where
  mem := by simp
  obj := fun i h st c hc => by
    obtain ⟨⟨old, hz⟩, h1⟩ := st
    have e' : c = z ∨ c = i1 := by simpa using hc
    rcases e' with q | q
    · rw [q]; exact ⟨_, hz, fun v q => nomatch q⟩
    · rw [q]; exact h1.obj
  keep := fun i h h' st k => by
    obtain ⟨⟨old, hz⟩, h1⟩ := st
    exact ⟨⟨old, k z (by simp) _ hz⟩, h1.at fun o q => k i1 (by simp) o q⟩
  item := by
    intro X hP hw hK hc i pins s σ H E I hf st hg
    subst hP hw hK
    obtain ⟨hz, h1⟩ := st
    obtain ⟨xs, x, hqx, hx⟩ := hg
    obtain ⟨its, rv, p⟩ := Inv.sk I hqx
    obtain ⟨u, hu, ru⟩ := rv.get hx
    have hh : X.A.in1.handled = none := I.ok.hd hc
    have WT := WalksT.enumerateD (prog := X.prog) (w := X.w) (A := X.A) (drawsK k1 hh i1 a (h1.ne p) its.toArray) z hz1 (by simp [hz1, hza]) (by simp)
    have hi1 : i < its.length := (List.getElem?_eq_some_iff.mp hu).1
    refine WT.item i s _ _ (by simpa using hi1) ⟨hz, ⟨h1, p⟩⟩ fun T vals h' tk hP hT hIT hMid hk => ⟨_, rfl, WT.go elts kk tpos i T _ _ _ hMid fun h'' st2 hk2 => ?_⟩
    obtain ⟨t1, x1, e1, rfl⟩ := hP
    have e1 : u = x1 := by simpa [hu] using e1
    subst e1
    obtain ⟨o, eo, c, n, ed⟩ := hIT
    have hT2 := hk2 T o (WT.apart i T _ hMid) eo
    have new : ObjOk X.prog X.w (upd H T (.tup [.int (i : Nat), x])) h'' T (.tup [.int (i : Nat), x]) := ⟨by show 2 ≤ sizeLine; decide, [.int i t1, u], .cons ⟨_, rfl⟩ (.cons ru .nil), o, hT2, c, n, ed⟩
    obtain ⟨hz2, ⟨h12, _⟩⟩ := st2
    have I1 : L2.Inv X pins σ (upd H T (.tup [.int (i : Nat), x])) { s with heap := h'', toks := tk } :=
      I.turnedNew (t' := tk) (ch := [z, i1]) (fun c o hb q => hk2 c o (fun q' => hb (by simpa using q')) (hk c o (fun q' => hb (by simpa using q')) q)) hf hT new
    refine ⟨.ref T, _, I1, rfl, ⟨T, x, rfl, I.hok.fresh hT, rfl, fun l hl => by rw [Inv.sk_inj I hl hqx]; exact hx⟩, ⟨hz2, h12⟩, fun c hcm => ?_⟩
    have hlt : c < s.heap.objs.size := by
      obtain ⟨_, hz⟩ := hz
      have e' : c = z ∨ c = i1 := by simpa using hcm
      rcases e' with q | q
      · rw [q]; exact Heap.lt_size hz
      · rw [q]; obtain ⟨_, e1, _⟩ := h1.obj; exact Heap.lt_size e1
    rw [upd_ne (Nat.ne_of_lt (Nat.lt_of_lt_of_le hlt hT))]
    exact (hf c hcm).1
  done := by
    intro X hP hw hK hc i pins s σ H E I hf st hg
    subst hP hw hK
    obtain ⟨hz, h1⟩ := st
    obtain ⟨xs, hqx, rfl⟩ := hg
    obtain ⟨its, rv, p⟩ := Inv.sk I hqx
    have hh : X.A.in1.handled = none := I.ok.hd hc
    have WT := WalksT.enumerateD (prog := X.prog) (w := X.w) (A := X.A) (drawsK k1 hh i1 a (h1.ne p) its.toArray) z hz1 (by simp [hz1, hza]) (by simp)
    have e : its.toArray.size = xs.length := by simp [rv.length]
    refine WT.done s _ _ ⟨by rw [e]; exact hz, ⟨by rw [e]; exact h1, p⟩⟩ fun h' tk hk => ⟨rfl, I.turnedL (t' := tk) (ch := [z, i1]) (fun c o hb q => hk c o (fun q' => hb (by simpa using q')) q) hf⟩
  self := fun A i s Q E st h => let ⟨⟨_, he⟩, _⟩ := st; wpAny_pyIter_enum he h
/-- the data of an enumeration -/
def enumD : Nat → List D → List D
  | _, [] => []
  | n, d :: ds => .tuple [.int (n : Nat), d] :: enumD (n + 1) ds
theorem enumD_length : ∀ (n : Nat) (ds : List D), (enumD n ds).length = ds.length
  | _, [] => rfl
  | n, d :: ds => by unfold enumD; simp [enumD_length]
theorem enumD_get : ∀ {n : Nat} {ds : List D} {i : Nat} {d : D}, (enumD n ds)[i]? = some d → ∃ e, ds[i]? = some e ∧ d = .tuple [.int ((n + i : Nat) : Int), e]
  | _, [], _, _, h => by simp [enumD] at h
  | n, e :: ds, 0, d, h => by simp [enumD] at h; subst h; exact ⟨e, by simp, rfl⟩
  | n, e :: ds, i + 1, d, h => by
    obtain ⟨e', h1, h2⟩ := enumD_get (n := n + 1) (ds := ds) (i := i) (d := d) (by simpa [enumD] using h)
    refine ⟨e', by simpa using h1, ?_⟩
    rw [h2]
    have : n + 1 + i = n + (i + 1) := by omega
    rw [this]
theorem yields_enum {K : PySem.W.Frag} {F : Hp} {k1 : Bool} {a : Addr} {vs : List V} {ds : List D} (h1 : ∀ H', Ext F H' → SK K k1 H' a vs) (r1 : RA F vs ds) : Yields (ItE K k1 a) F (enumD 0 ds) where
  go := fun i H F' e1 e2 hi => by
    rw [enumD_length] at hi
    have g1 : i < vs.length := by rw [r1.length]; exact hi
    exact ⟨vs, vs[i], h1 H (e1.trans e2), List.getElem?_eq_getElem g1⟩
  yld := fun i H F' x H' e1 e2 y => by
    obtain ⟨T, x, rfl, hT, rfl, f1⟩ := y
    refine ⟨upd F' T (.tup [.int (i : Nat), x]), XS.new e2 hT, fun d hd => ?_⟩
    obtain ⟨d1, q1, rfl⟩ := enumD_get hd
    obtain ⟨v1, w1, z1⟩ := r1.get q1
    have := f1 vs (h1 H (e1.trans e2))
    rw [w1] at this; cases this
    have ex : Ext F (upd F' T (.tup [.int (i : Nat), x])) := e1.trans (Ext.new (e2.free hT))
    have e0 : ((0 + i : Nat) : Int) = ((i : Nat) : Int) := by simp
    rw [e0]
    exact .tup upd_same (.cons (.int _) (.cons (z1.mono ex) .nil))
  stop := fun H F' e1 e2 => ⟨vs, h1 H (e1.trans e2), by rw [enumD_length, r1.length]⟩
/-- the things of an enumeration -/
def enumT {α : Type} : Int → List α → List (Int × α)
  | _, [] => []
  | n, x :: xs => (n, x) :: enumT (n + 1) xs
theorem enumD_map {α : Type} {ε : α → D} : ∀ (n : Nat) (xs : List α), enumD n (xs.map ε) = (enumT (n : Int) xs).map (eP PyData.int ε)
  | _, [] => rfl
  | n, x :: xs => by
    show _ :: enumD (n + 1) (xs.map ε) = _ :: (enumT ((n : Int) + 1) xs).map (eP PyData.int ε)
    rw [enumD_map (n + 1) xs]
    rfl
section
variable {X : Cx} {tg iter a b c e : Expr} {C C1 C2 C3 C' : Ct} {d d1 d2 d3 : D} {ds es : List D} {pos p : Pos} {i j k : Int} {x y : Str} {α β : Type} {ε : α → D} {xs ys : List α} {P : Out → Prop} {rest : List Stmt}
def iEnumK (K : PySem.W.Frag) (ta : TA) : TI := fun σ H R => ta σ H fun vs H1 => ∃ a xs k1, vs = [.ref a] ∧ SK K k1 H1 a xs ∧ R (ItE K k1 a) H1
theorem pi_enumK {e : Expr} {ta : TA} {p pos tpos : Pos} {elts : List Expr} {kk : Nat} (hg : Gl X "enumerate") (hm : X.mg "enumerate" = none) (ha : PA X [e] ta) (hs : starEach [e] X.env = [(false, eval e X.env)] := by rfl) :
    PI X (.Tuple elts kk tpos) (.Call (.Name "enumerate" p) [e] [] pos) (iEnumK X.K ta) := by
  refine ⟨fun pins s σ H R I h => ?_⟩
  refine Call_ (ld_blt I hg hm boot_enumerate (PyProof.Rows.callWith_type1 (thn (ha.run pos pins s σ H _ I h) fun us s1 ⟨vs, H1, I1, r1, q1⟩ => ?_) hs rfl))
  obtain ⟨a, xs, k1, ex, hqx, q⟩ := q1
  subst ex
  cases r1 with
  | cons r rr =>
    cases rr
    cases r
    have fresh2 : ∀ c, c ∈ [s1.heap.objs.size + 1, s1.heap.objs.size] → FpOk X pins H1 c := fun c hcm => by
      have hle : s1.heap.objs.size ≤ c := by
        simp at hcm
        omega
      exact I1.fpOk hle (I1.hok.fresh hle)
    obtain ⟨its, rv, p1⟩ := Inv.sk I1 hqx
    refine enum1 (beginsK k1 a its.toArray) p1 fun h' hz h1 hk => wpAny_pyIter_enum hz ?_
    have I2 : L2.Inv X pins σ H1 { s1 with heap := h' } := I1.kept (t' := s1.toks) hk
    exact ⟨s1.heap.objs.size + 1, [s1.heap.objs.size + 1, s1.heap.objs.size], _, _, H1, rfl, I2, turn_enumK (Nat.succ_ne_self _) (Nat.ne_of_gt (Nat.lt_succ_of_lt p1.lt)), ⟨⟨_, hz⟩, IK.begin h1⟩, fresh2, q⟩
theorem t_enum {elts : List Expr} {kk : Nat} {tpos : Pos} (hm : X.mg "enumerate" = none) (ha : GE X a C d1 C1) (h1 : sq d1 = some (xs.map ε)) (hg : Gl X "enumerate" := by rfl) (hs : starEach [a] X.env = [(false, eval a X.env)] := by rfl) (hs2 : starEach [a] X.env = (false, eval a X.env) :: starEach [] X.env := by rfl) :
    GI X (.Tuple elts kk tpos) (.Call (.Name "enumerate" p) [a] [] pos) C ((enumT 0 xs).map (eP PyData.int ε)) C1 := fun F H σ S Rr q => by
  refine wpI_of (pi_enumK hg hm (pa_cons pe_wp pa_nil hs2) hs) ?_
  refine ha F H σ S _ fun v F1 H1 s1 S1 r1 => ?_
  obtain ⟨l1, vs, k1, rfl, g1, w1⟩ := Rd1.sk (K := X.K) S1.ex r1 h1
  refine ⟨l1, vs, k1, rfl, g1 H1 S1.ex, q _ F1 H1 s1 S1 ?_⟩
  have := yields_enum g1 w1
  rw [enumD_map] at this
  exact this
/-! ### max with a default -/
def rMaxDef (K : PySem.W.Frag) : List V → List V → Hp → VK → Prop := fun vs zs H Q => ∃ (a : Addr) (ns : List Int) (d : Int), vs = [.ref a] ∧ zs = [.int d] ∧ SqL K H a (ns.map V.int) ∧ Q (.int ((lmax ns).getD d)) H
theorem dp_ints {K : PySem.W.Frag} {H : Hp} : ∀ ns : List Int, DpAll K H (ns.map V.int) (ns.map PyData.int)
  | [] => .nil
  | n :: ns => .cons (.int n) (dp_ints ns)
theorem cr_maxDef {k : Nat} (hc : X.calm = true) (hr : RoomG k X.A) : CallRK X (.builtin "max") ["default"] (rMaxDef X.K) := by
  intro pins s σ H vs zs us ws Q I r1 r2 h
  obtain ⟨a, ns, d, rfl, rfl, hs, q⟩ := h
  obtain ⟨its, rv, hl, hz⟩ := I.list hs
  rw [Vals.ref1 r1]
  obtain ⟨u, rfl, t, rfl⟩ := vals1 r2
  obtain ⟨as, ra⟩ := Dp.readsAll I _ _ _ (dp_ints ns) rv
  have hh : X.A.handled = none := I.ok.hd hc
  have hal : PySem.W.AlikeAll (ns.map PyData.int) := ⟨fun x hx y hy => by
    obtain ⟨i, _, rfl⟩ := List.mem_map.mp hx
    obtain ⟨j, _, rfl⟩ := List.mem_map.mp hy
    rfl, fun x hx => by obtain ⟨i, _, rfl⟩ := List.mem_map.mp hx; simp⟩
  have hd : PyData.depthAll (ns.map PyData.int) ≤ 0 := depAll fun x hx => by obtain ⟨i, _, rfl⟩ := List.mem_map.mp hx; exact Nat.le_refl _
  have hu := hr.un
  refine PySem.W.max_list_default (d := .int d t) hh hl.isList (by simpa using ra) hal (by omega) (fun h0 h' tk hk => ?_) fun y ys i v h' tk bs e hv hrd hk => ?_
  · have : ns = [] := List.map_eq_nil_iff.mp h0
    subst this
    exact ⟨.int d, H, I.kept (t' := tk) hk, ⟨t, rfl⟩, q⟩
  · cases ns with
    | nil => cases e
    | cons n ns =>
      have e := List.cons.inj (show PyData.int n :: ns.map PyData.int = y :: ys from e)
      obtain ⟨rfl, rfl⟩ := e
      rw [PySem.W.maxD_ints] at hrd
      cases hrd
      exact ⟨.int (ns.foldl max n), H, I.kept (t' := tk) hk, ⟨_, rfl⟩, q⟩
theorem g_maxDef {is : List Int} {k : Nat} {kp : Pos} (hc : X.calm = true) (hr : RoomG k X.A) (hm : X.mg "max" = none) (ha : GV X a C (.list (is.map .int)) C1) (hb : GE X b C1 (.int j) C1) (hg : Gl X "max" := by rfl) (he : starEach [a] X.env = (false, eval a X.env) :: starEach [] X.env := by rfl)
    (he2 : backTo pos (starEach [a] X.env) = (false, eval a X.env) :: backTo pos (starEach [] X.env) := by rfl) (hpl : (backTo pos (starEach [a] X.env)).any (·.1) = false := by rfl)
    (hall : (backToKw pos (keywordEach [⟨some "default", b, kp⟩] X.env)).all (·.1.isSome) = true := by rfl) (hnone : (backToKw pos (keywordEach [⟨some "default", b, kp⟩] X.env)).any (·.1.isNone) = false := by rfl) (hks : (backToKw pos (keywordEach [⟨some "default", b, kp⟩] X.env)).filterMap (·.1) = (["default"] : List Str) := by rfl) :
    GE X (.Call (.Name "max" p) [a] [⟨some "default", b, kp⟩] pos) C (.int ((lmax is).getD j)) C1 := fun F H σ S Q q => by
  refine wpE_of (pe_callBK (cr_maxDef hc hr) hg hm (by decide +kernel) (pa_cons pe_wp pa_nil he) (pk_cons pe_wp pk_nil) (by decide) (by decide) he2 hpl hall hnone hks) ?_
  refine ha F H σ S _ fun v F1 H1 s1 S1 r1 => hb F1 H1 σ S1 _ fun u F2 H2 s2 S2 r2 => ?_
  cases r2
  obtain ⟨l, vs, rfl, h, r'⟩ := ((r1.same s2).rd S2).list S2.ex
  cases r'.ints
  exact ⟨l, is, j, rfl, rfl, .inl h, q _ F2 H2 (s1.trans s2) S2 (.int _)⟩
end
end G
/-! G17: xs[k] op= e, extend, pop, three names at once. -/
namespace G
open PySem L2 PyProof.Rows
section
variable {X : Cx} {a b c e : Expr} {C C1 C2 C3 C' : Ct} {d d1 d2 d3 : D} {ds : List D} {pos p : Pos} {i j : Int} {x y z : Str} {α β : Type} {ε : α → D} {xs ys : List α} {P : Out → Prop} {rest : List Stmt}
def rGetL : V → V → Hp → VK → Prop := fun o i H Q => ∃ p xs k v, o = .ref p ∧ i = .int k ∧ H p = some (.lst xs) ∧ atI xs k = some v ∧ Q v H
theorem get_lst : PGet X rGetL := by
  intro pins s σ H o i ov iv Q I ro ri h
  obtain ⟨p, xs, k, v, rfl, rfl, hq, he, q⟩ := h
  cases ro
  obtain ⟨t, rfl⟩ := ri
  obtain ⟨its, r, pl, hz⟩ := I.list (.of hq)
  obtain ⟨j, h1, h2, h3, h4, h5⟩ := atI_get he
  obtain ⟨w, ew, rw'⟩ := r.get h2
  have hl := r.length
  have hn := line63
  have fin : EP X pins σ Q w s := ⟨v, H, I, rw', q⟩
  by_cases h0 : 0 ≤ k
  · have hj : k.toNat = j := by
      rw [seqIndex_of h0 h5] at h1
      exact Option.some.inj h1
    exact wpAny_getItem_list pl.isList h0 (by omega) (by rw [hj]; simpa using ew) fin
  · have hj : (k + (its.toArray.size : Int)).toNat = j := by
      rw [seqIndex_neg (by omega) h4] at h1
      rw [List.size_toArray, ← hl]
      exact Option.some.inj h1
    exact wpAny_getItem_list_neg pl.isList (by omega) (by rw [List.size_toArray] <;> omega) (by omega) (by rw [hj]; simpa using ew) fin
theorem atI_ix {vs : List V} {k : Int} {n : Nat} {v : V} (h : ixN vs.length k = some n) (hv : vs[n]? = some v) : atI vs k = some v := by unfold atI; rw [h]; exact hv
/-- xs[k] op= e: whole numbers in a list of one's own -/
theorem gs_augIx (i : Nat) {op : Operator} {t : TIp} {is : List Int} {n u v w : Int} {k : Nat} {p2 p3 : Pos} (hk : ixN is.length n = some k) (hu : is[k]? = some u) (ho : PIp X op t) (hV : V2 t (.int u) (.int v) (.int w)) (hC : C[i]? = some (.ol (is.map .int))) (hb : GE X b C (.int n) C) (h : GE X e C (.int v) C1) (hC1 : C1[i]? = some (.ol (is.map .int)))
    (hr : GS X rest (C1.set i (.ol ((is.set k w).map .int))) P) (hN : X.N[i]? = some x := by rfl) (hv : Vis X.env.scope x := by first | exact Or.inl rfl | exact Or.inr (Or.inl rfl) | exact Or.inr (Or.inr rfl)) (hd : (x == ("__debug__" : Str)) = false := by decide) (hcd : (x == ("__classdict__" : Str)) = false := by decide)
    (ha : ∀ ov iv new, augStore b ov iv new = (do holding [new, ov, iv] (setItem ov iv new); release [new, ov, iv] []; pure .next) := by intros; rfl) : GS X (.AugAssign (.Subscript (.Name x p2) b p3) op e pos :: rest) C P := fun F H σ D' S q => by
  refine wpSs_of (pss_cons (ps_augS (pe_var hN hv hd hcd) pe_wp get_lst pe_wp ho set_list ha) pss_wp) ?_
  obtain ⟨l, vs, e0, g1, g2, g3⟩ := S.sl i _ hC
  refine ⟨_, e0, ?_⟩
  refine hb F H σ S _ fun z F1 H1 s1 S1 r1 => ?_
  cases r1
  obtain ⟨l', vs1, e1, g1, g2, g3⟩ := S1.sl i _ hC
  rw [e0] at e1; cases e1
  have hl1 : vs1.length = is.length := by rw [g2.length, List.length_map]
  obtain ⟨zu, hz1, hz2⟩ := g2.get (i := k) (d := .int u) (by rw [List.getElem?_map, hu]; rfl)
  refine ⟨l, vs1, n, zu, rfl, rfl, g1, atI_ix (by rw [hl1]; exact hk) hz1, ?_⟩
  refine h F1 H1 σ S1 _ fun y F2 H2 s2 S2 r2 => hV F2 H2 zu y S2.ex (.inl (hz2.mono s2.e)) (.inl r2) _ fun new F3 H3 x3 r3 => ?_
  have S3 := S2.xs x3
  obtain ⟨l', vs3, e1, g1, g2, g3⟩ := S3.sl i _ hC1
  rw [e0] at e1; cases e1
  refine ⟨l, vs3, n, k, rfl, rfl, g1, by rw [g2.length, List.length_map]; exact hk, ?_⟩
  have hs : (Sl.ol (is.map PyData.int)).ls = some (is.map PyData.int) := rfl
  have ok : SlOk F3 (upd H3 l (.lst (vs3.set k new))) σ[i]? (.ol ((is.set k w).map .int)) := by
    refine ⟨l, _, e0, upd_same, ?_, g3⟩
    rw [List.map_set]
    exact g2.set k r3
  exact hr F3 _ σ D' (S3.wr hC1 rfl e0 ok rfl) fun o ho => (q o ho).step (((s1.trans s2).trans x3.stp).wr hC1 rfl e0)
theorem gs_augMulIx (i : Nat) {is : List Int} {n u v w : Int} {k : Nat} {p2 p3 : Pos} (hk : ixN is.length n = some k) (hu : is[k]? = some u) (hw : pmul u v = some w) (hC : C[i]? = some (.ol (is.map .int))) (hb : GE X b C (.int n) C) (h : GE X e C (.int v) C1) (hC1 : C1[i]? = some (.ol (is.map .int)))
    (hr : GS X rest (C1.set i (.ol ((is.set k w).map .int))) P) (hN : X.N[i]? = some x := by rfl) (hv : Vis X.env.scope x := by first | exact Or.inl rfl | exact Or.inr (Or.inl rfl) | exact Or.inr (Or.inr rfl)) (hd : (x == ("__debug__" : Str)) = false := by decide) (hcd : (x == ("__classdict__" : Str)) = false := by decide)
    (ha : ∀ ov iv new, augStore b ov iv new = (do holding [new, ov, iv] (setItem ov iv new); release [new, ov, iv] []; pure .next) := by intros; rfl) : GS X (.AugAssign (.Subscript (.Name x p2) b p3) .Mult e pos :: rest) C P := gs_augIx i hk hu ip_mulW (v_mul hw) hC hb h hC1 hr hN hv hd hcd ha
/-- xs.extend(ys), ys a new list -/
theorem t_extend (i : Nat) {apos : Pos} (hz : szOk (xs.length + ys.length) = some ()) (hC : C[i]? = some (.ol (xs.map ε))) (h : GL X e C (ys.map ε) C1) (hC1 : C1[i]? = some (.ol (xs.map ε))) (hN : X.N[i]? = some x := by rfl) (hv : Vis X.env.scope x := by first | exact Or.inl rfl | exact Or.inr (Or.inl rfl) | exact Or.inr (Or.inr rfl))
    (hd : (x == ("__debug__" : Str)) = false := by decide) (hcd : (x == ("__classdict__" : Str)) = false := by decide) (he : starEach [e] X.env = (false, eval e X.env) :: starEach [] X.env := by rfl)
    (hfew : ((backTo pos (starEach [e] X.env)).all (fun x => !x.1) && (backToKw pos (keywordEach [] X.env)).all (fun x => x.1.isSome) && decide (([e] : List Expr).length + ([] : List Keyword).length + (if ([] : List Keyword).isEmpty then 0 else 1) < 30)) = true := by rfl)
    (hbase : attributeBase (.Name x p) "extend" X.env (eval (.Name x p) X.env) = eval (.Name x p) X.env := by rfl) (hline : (apos.endLine == pos.line) = true := by rfl) :
    GE X (.Call (.Attribute (.Name x p) "extend" apos) [e] [] pos) C .none (C1.set i (.ol ((xs ++ ys).map ε))) := fun F H σ S Q q => by
  refine wpE_of (pe_bm PySem.F.plainAttrs_list PySem.F.slot_list_extend PySem.F.type_list_extend mt_extend (pe_var hN hv hd hcd) (pa_cons pe_wp pa_nil he) hbase hfew hline he) ?_
  obtain ⟨p, vs, e0, h1, h2, h3⟩ := S.sl i _ hC
  refine ⟨_, e0, .inl ⟨rfl, _, .of h1⟩, ?_⟩
  refine h F H σ S _ fun l us F1 H1 s1 S1 k1 k2 k3 k4 k5 => ?_
  obtain ⟨p', vs', e1, g1, g2, g3⟩ := S1.sl i _ hC1
  rw [e0] at e1; cases e1
  have hz' := szOk_le hz
  refine ⟨p, l, vs', us, rfl, rfl, g1, k2, by rw [g2.length, k3.length, List.length_map, List.length_map]; exact hz', ?_⟩
  have ok : SlOk F1 (upd H1 p (.lst (vs' ++ us))) σ[i]? (.ol ((xs ++ ys).map ε)) := by
    refine ⟨p, _, e0, upd_same, ?_, g3⟩
    rw [List.map_append]
    exact g2.append k3
  exact q _ F1 _ (s1.wr hC1 rfl e0) (S1.wr hC1 rfl e0 ok rfl) .non
/-- xs.pop() -/
theorem t_pop (i : Nat) {apos : Pos} {u : α} (hl : xs.getLast? = some u) (hC : C[i]? = some (.ol (xs.map ε))) (hN : X.N[i]? = some x := by rfl) (hv : Vis X.env.scope x := by first | exact Or.inl rfl | exact Or.inr (Or.inl rfl) | exact Or.inr (Or.inr rfl))
    (hd : (x == ("__debug__" : Str)) = false := by decide) (hcd : (x == ("__classdict__" : Str)) = false := by decide)
    (hbase : attributeBase (.Name x p) "pop" X.env (eval (.Name x p) X.env) = eval (.Name x p) X.env := by rfl) (hline : (apos.endLine == pos.line) = true := by rfl) :
    GE X (.Call (.Attribute (.Name x p) "pop" apos) [] [] pos) C (ε u) (C.set i (.ol (xs.dropLast.map ε))) := fun F H σ S Q q => by
  refine wpE_of (pe_bm0 PySem.F.plainAttrs_list PySem.F.slot_list_pop PySem.F.type_list_pop mt_pop (pe_var hN hv hd hcd) hbase hline) ?_
  obtain ⟨p, vs, e0, h1, h2, h3⟩ := S.sl i _ hC
  refine ⟨_, e0, .inl ⟨rfl, _, .of h1⟩, ?_⟩
  have hlen : vs.length = xs.length := by rw [h2.length, List.length_map]
  obtain ⟨z, hz1, hz2⟩ := h2.get (i := vs.length - 1) (d := ε u) (by
    rw [List.getElem?_map, hlen, ← List.getLast?_eq_getElem?, hl]; rfl)
  refine ⟨p, vs, z, rfl, rfl, h1, hz1, ?_⟩
  have ok : SlOk F (upd H p (.lst vs.dropLast)) σ[i]? (.ol (xs.dropLast.map ε)) := by
    refine ⟨p, _, e0, upd_same, ?_, h3⟩
    rw [List.map_dropLast]
    exact h2.dropLast
  exact q _ F _ (Stp.refl.wr hC rfl e0) (S.wr hC rfl e0 ok rfl) hz2
/-- a, b, c = e1, e2, e3, plain names -/
theorem gs_par3 (i j l : Nat) {px py pz pt : Pos} {kt k2 pt2} (hc : X.calm = true) (hN : X.N.Nodup) (ha : GE X a C d1 C1) (hb : GE X b C1 d2 C2) (hcc : GE X c C2 d3 C3) (hr : GS X rest (((C3.set i (.sh d1)).set j (.sh d2)).set l (.sh d3)) P) (hli : i < C3.length := by exact Nat.le_of_ble_eq_true rfl) (hlj : j < C3.length := by exact Nat.le_of_ble_eq_true rfl) (hll : l < C3.length := by exact Nat.le_of_ble_eq_true rfl)
    (hij : i ≠ j := by decide) (hil : i ≠ l := by decide) (hjl : j ≠ l := by decide)
    (hi : X.N[i]? = some x := by rfl) (hj : X.N[j]? = some y := by rfl) (hl : X.N[l]? = some z := by rfl) (hx : X.env.scope.names.lookup x = some .local := by rfl) (hy : X.env.scope.names.lookup y = some .local := by rfl) (hz : X.env.scope.names.lookup z = some .local := by rfl)
    (he : starEach [a, b, c] X.env = (false, eval a X.env) :: starEach [b, c] X.env := by rfl) (he2 : starEach [b, c] X.env = (false, eval b X.env) :: starEach [c] X.env := by rfl) (he3 : starEach [c] X.env = (false, eval c X.env) :: starEach [] X.env := by rfl)
    (hw : swappedStores [.Tuple [.Name x px, .Name y py, .Name z pz] kt pt] (.Tuple [a, b, c] k2 pt2) X.env = pure (some [x, y, z]) := by rfl)
    (hs : swapsWithSole [.Tuple [.Name x px, .Name y py, .Name z pz] kt pt] (.Tuple [a, b, c] k2 pt2) pos.line X.env = pure false := by rfl) : GS X (.Assign [.Tuple [.Name x px, .Name y py, .Name z pz] kt pt] (.Tuple [a, b, c] k2 pt2) pos :: rest) C P := fun F H σ D' S q => by
  refine wpSs_of (pss_cons (ps_par3 hc hN hi hj hl hij hil hjl hx hy hz (pa_cons pe_wp (pa_cons pe_wp (pa_cons pe_wp pa_nil he3) he2) he) hw hs) pss_wp) ?_
  refine ha F H σ S _ fun v F1 H1 s1 S1 r1 => hb F1 H1 σ S1 _ fun u F2 H2 s2 S2 r2 => hcc F2 H2 σ S2 _ fun w F3 H3 s3 S3 r3 => ⟨v, u, w, rfl, ?_⟩
  have T1 : Sat F3 H3 (σ.set i (some v)) (C3.set i (.sh d1)) := S3.asg hli ⟨v, rfl, (r1.mono s2.e).mono s3.e⟩ fun z => nomatch z
  have T2 : Sat F3 H3 ((σ.set i (some v)).set j (some u)) ((C3.set i (.sh d1)).set j (.sh d2)) := T1.asg (by rw [List.length_set]; exact hlj) ⟨u, rfl, r2.mono s3.e⟩ fun z => nomatch z
  have T3 : Sat F3 H3 (((σ.set i (some v)).set j (some u)).set l (some w)) (((C3.set i (.sh d1)).set j (.sh d2)).set l (.sh d3)) := T2.asg (by rw [List.length_set, List.length_set]; exact hll) ⟨w, rfl, r3⟩ fun z => nomatch z
  exact hr F3 H3 _ D' T3 fun o ho => (q o ho).step (((((s1.trans s2).trans s3).trans (Stp.sh rfl)).trans (Stp.sh rfl)).trans (Stp.sh rfl))
end
end G
/-! G18: dicts of one's own with keys that are whole numbers. -/
namespace G
open PySem L2 PyProof.Rows
/-! ### as lists of pairs -/
def dget {κ β : Type} [DecidableEq κ] (kvs : List (κ × β)) (k : κ) : Option β := (kvs.find? fun kv => decide (kv.1 = k)).map (·.2)
def dput {κ β : Type} [DecidableEq κ] (kvs : List (κ × β)) (k : κ) (v : β) : List (κ × β) :=
  if (kvs.any fun kv => decide (kv.1 = k)) = true then kvs.map (fun kv => if kv.1 = k then (kv.1, v) else kv) else kvs ++ [(k, v)]
theorem RK.val {F : Hp} {k : Int} : ∀ {es : List (Key × V)} {kvs : List (Int × D)}, RK F es kvs → (valV es (.inl k) = none ∧ dget kvs k = none) ∨ ∃ v d, valV es (.inl k) = some v ∧ dget kvs k = some d ∧ R F v d
  | _, _, .nil => .inl ⟨rfl, rfl⟩
  | _, _, .cons (k := k0) (v := v) (d := d) r t => by
    by_cases h : k0 = k
    · subst h
      exact .inr ⟨v, d, valV_pos rfl, by simp [dget], r⟩
    · rcases RK.val (k := k) t with ⟨h1, h2⟩ | ⟨v', d', h1, h2, h3⟩
      · exact .inl ⟨by rw [valV_neg (by simpa using h)]; exact h1, by simpa [dget, List.find?_cons, h] using h2⟩
      · exact .inr ⟨v', d', by rw [valV_neg (by simpa using h)]; exact h1, by simpa [dget, List.find?_cons, h] using h2, h3⟩
theorem RK.length {F : Hp} : ∀ {es : List (Key × V)} {kvs : List (Int × D)}, RK F es kvs → es.length = kvs.length
  | _, _, .nil => rfl
  | _, _, .cons _ t => congrArg Nat.succ (RK.length t)
theorem RK.any {F : Hp} {k : Int} : ∀ {es : List (Key × V)} {kvs : List (Int × D)}, RK F es kvs → (es.any fun kv => decide (kv.1 = .inl k)) = kvs.any fun kv => decide (kv.1 = k)
  | _, _, .nil => rfl
  | _, _, .cons r t => by
    rw [List.any_cons, List.any_cons, RK.any t]
    congr 1
    simp
theorem RK.mapPut {F : Hp} {k : Int} {v : V} {d : D} (rv : R F v d) : ∀ {es : List (Key × V)} {kvs : List (Int × D)}, RK F es kvs → RK F (es.map fun kv => if kv.1 = .inl k then (kv.1, v) else kv) (kvs.map fun kv => if kv.1 = k then (kv.1, d) else kv)
  | _, _, .nil => .nil
  | _, _, .cons (k := k0) r t => by
    rw [List.map_cons, List.map_cons]
    by_cases h : k0 = k
    · subst h
      rw [if_pos rfl, if_pos rfl]
      exact .cons rv (RK.mapPut rv t)
    · rw [if_neg (by simpa using h), if_neg h]
      exact .cons r (RK.mapPut rv t)
theorem RK.snoc {F : Hp} {k : Int} {v : V} {d : D} (rv : R F v d) : ∀ {es : List (Key × V)} {kvs : List (Int × D)}, RK F es kvs → RK F (es ++ [(.inl k, v)]) (kvs ++ [(k, d)])
  | _, _, .nil => .cons rv .nil
  | _, _, .cons r t => .cons r (RK.snoc rv t)
theorem RK.put {F : Hp} {k : Int} {v : V} {d : D} {es : List (Key × V)} {kvs : List (Int × D)} (r : RK F es kvs) (rv : R F v d) : RK F (putK es (.inl k) v) (dput kvs k d) := by
  unfold putK dput
  rw [r.any]
  split
  · exact r.mapPut rv
  · exact r.snoc rv
theorem RK.keys {F : Hp} : ∀ {es : List (Key × V)} {kvs : List (Int × D)}, RK F es kvs → es.map (·.1) = (kvs.map (·.1)).map Sum.inl
  | _, _, .nil => rfl
  | _, _, .cons _ t => by rw [List.map_cons, List.map_cons, List.map_cons, RK.keys t]
/-- a dict of one's own; the same, locked: it stays -/
def oiS (kvs : List (Int × D)) : OSpec := ⟨fun F _ o => ∃ es, o = .dK es ∧ RK F es kvs, (fun ⟨_, e, _⟩ _ z => by rw [e] at z; cases z), fun e ⟨es, h, r⟩ => ⟨es, h, r.mono e⟩⟩
def sdS (kvs : List (Int × D)) : SSpec := ⟨fun F v => ∃ a ob es, v = .ref a ∧ F a = some (.frz ob (.dK es)) ∧ RK F es kvs, fun e ⟨a, ob, es, h1, h2, r⟩ => ⟨a, ob, es, h1, e _ _ h2, r.mono e⟩⟩
/-- a slot that reads as such a dict -/
def DRd (s : Sl) (kvs : List (Int × D)) : Prop := ∀ (F H : Hp) (ov : Option (Option V)), Ext F H → SlOk F H ov s → ∃ a es, ov = some (some (.ref a)) ∧ Rd H a (.dK es) ∧ RK F es kvs
theorem drd_oi {kvs : List (Int × D)} : DRd (.ob (oiS kvs)) kvs := fun F H ov e h => by
  obtain ⟨p, u, h1, h2, ⟨es, rfl, r⟩, _⟩ := h
  exact ⟨p, es, h1, .inl h2, r⟩
theorem drd_sd {kvs : List (Int × D)} : DRd (.sp (sdS kvs)) kvs := fun F H ov e h => by
  obtain ⟨v, h1, a, ob, es, rfl, h2, r⟩ := h
  exact ⟨a, es, h1, .inr ⟨ob, e _ _ h2⟩, r⟩
theorem perm_sorted_eq : ∀ {xs ys : List Int}, xs.Perm ys → xs.Pairwise (· ≤ ·) → ys.Pairwise (· ≤ ·) → xs = ys
  | [], ys, h, _, _ => (List.Perm.eq_nil h.symm).symm
  | x :: xs, [], h, _, _ => absurd h.length_eq (by simp)
  | x :: xs, y :: ys, h, hx, hy => by
    have h1 : x ≤ y := by
      rcases List.mem_cons.mp (h.mem_iff.mpr (List.mem_cons_self (a := y) (l := ys))) with e | m
      · omega
      · exact (List.pairwise_cons.mp hx).1 y m
    have h2 : y ≤ x := by
      rcases List.mem_cons.mp (h.mem_iff.mp (List.mem_cons_self (a := x) (l := xs))) with e | m
      · omega
      · exact (List.pairwise_cons.mp hy).1 x m
    have e : x = y := Int.le_antisymm h1 h2
    subst e
    rw [perm_sorted_eq h.cons_inv (List.pairwise_cons.mp hx).2 (List.pairwise_cons.mp hy).2]
theorem insB_perm {α : Type} {le : α → α → Bool} {x : α} : ∀ {l : List α}, (insB le x l).Perm (x :: l)
  | [] => .refl _
  | y :: ys => by
    unfold insB
    split
    · exact .refl _
    · exact (List.Perm.cons y insB_perm).trans (List.Perm.swap x y ys)
theorem isort_perm {α : Type} {le : α → α → Bool} : ∀ {l : List α}, (isort le l).Perm l
  | [] => .refl _
  | x :: xs => insB_perm.trans (List.Perm.cons x isort_perm)
def leI (a b : Int) : Bool := decide (a ≤ b)
theorem isort_ints {l : List Int} : (isort leI l).Pairwise (· ≤ ·) := by
  have t : PySem.W.TotalLe leI := ⟨fun a b c h1 h2 => by simp only [leI, decide_eq_true_eq] at *; omega, fun a b => by simp only [leI, decide_eq_true_eq]; omega⟩
  have : (isort leI l).Pairwise (fun a b => leI a b = true) := by
    induction l with
    | nil => exact .nil
    | cons x xs ih => exact insB_pair t ih
  exact this.imp fun h => of_decide_eq_true h
section
variable {X : Cx} {a b c e : Expr} {C C1 C2 C3 C' : Ct} {d d1 d2 d3 : D} {ds : List D} {pos p p2 p3 : Pos} {j : Int} {x : Str} {P : Out → Prop} {rest : List Stmt} {kvs : List (Int × D)} {s : Sl}
theorem un1 {k : Nat} (hr : RoomG k X.A) : X.A.units + 1 < cLine := by have := hr.un; omega
/-- x = {} -/
theorem gs_dnew (i : Nat) (hN : X.N.Nodup) (hr : GS X rest (C.set i (.ob (oiS []))) P) (hl : i < C.length := by exact Nat.le_of_ble_eq_true rfl) (hi : X.N[i]? = some x := by rfl) (hx : Loc X.env.scope x := by first | exact .inl rfl | exact .inr rfl)
    (hs : swapsWith (.Dict [] [] p3) (some (.Name x p2)) pos.line X.env = pure false := by rfl) (hf : X.fn x = true ∨ X.env.scope.names.lookup x = some .local := by first | exact .inl rfl | exact .inr rfl) : GS X (.Assign [.Name x p2] (.Dict [] [] p3) pos :: rest) C P := fun F H σ D' S q => by
  refine wpSs_of (pss_cons (ps_set hN hi hx pe_dnewK hs hf) pss_wp) ?_
  intro q0 hq
  have x1 : XS F H F (upd H q0 (.dK [])) := XS.fresh S.ex hq
  have S1 := S.xs x1
  have no : ¬ Own σ C q0 := own_new S hq
  have st : Stp F H (Own σ C) F (upd H q0 (.dK [])) (Own (σ.set i (some (.ref q0))) (C.set i (.ob (oiS [])))) := (Stp.refl.trans x1.stp).ol hq
  exact hr F _ _ D' (S1.asg hl ⟨q0, _, rfl, upd_same, ⟨[], rfl, .nil⟩, S.ex.free hq⟩ fun _ a e => by cases e; exact own_any no) fun o ho => (q o ho).step st
/-- x[k] = e -/
theorem gs_dput {k : Nat} (i : Nat) (hrm : RoomG k X.A) (hz : szOk (kvs.length + 1) = some ()) (h : GE X e C d C1) (hC1 : C1[i]? = some (.ob (oiS kvs))) (hb : GE X b C1 (.int j) C1) (hr : GS X rest (C1.set i (.ob (oiS (dput kvs j d)))) P)
    (hN : X.N[i]? = some x := by rfl) (hv : Vis X.env.scope x := by first | exact Or.inl rfl | exact Or.inr (Or.inl rfl) | exact Or.inr (Or.inr rfl)) (hd : (x == ("__debug__" : Str)) = false := by decide) (hcd : (x == ("__classdict__" : Str)) = false := by decide)
    (hs : swapsWith e (some (.Subscript (.Name x p2) b p3)) pos.line X.env = pure false := by rfl) : GS X (.Assign [.Subscript (.Name x p2) b p3] e pos :: rest) C P := fun F H σ D' S q => by
  refine wpSs_of (pss_cons (ps_dput (un1 hrm) (pe_var hN hv hd hcd) pe_wp pe_wp hs) pss_wp) ?_
  refine h F H σ S _ fun v F1 H1 s1 S1 r1 => ?_
  obtain ⟨l, u, e0, g1, ⟨es, rfl, rk⟩, g3⟩ := S1.sl i _ hC1
  refine ⟨_, e0, ?_⟩
  refine hb F1 H1 σ S1 _ fun y F2 H2 s2 S2 r2 => ?_
  cases r2
  obtain ⟨l', u, e1, g1, ⟨es, rfl, rk⟩, g3⟩ := S2.sl i _ hC1
  rw [e0] at e1; cases e1
  have hz' := szOk_le hz
  refine ⟨l, _, rfl, DPut.k (k := .inl j) g1 (by rw [rk.length]; omega), ?_⟩
  have ok : SlOk F2 (upd H2 l (.dK (putK es (.inl j) v))) σ[i]? (.ob (oiS (dput kvs j d))) := ⟨l, _, e0, upd_same, ⟨_, rfl, rk.put (r1.mono s2.e)⟩, g3⟩
  exact hr F2 _ σ D' (S2.wr hC1 rfl e0 ok rfl) fun o ho => (q o ho).step ((s1.trans s2).wr hC1 rfl e0)
/-- x[k], there -/
theorem g_dget {k : Nat} (i : Nat) (hrm : RoomG k X.A) (hC : C[i]? = some s) (hs : DRd s kvs) (hb : GE X b C (.int j) C) (hg : dget kvs j = some d) (hN : X.N[i]? = some x := by rfl) (hv : Vis X.env.scope x := by first | exact Or.inl rfl | exact Or.inr (Or.inl rfl) | exact Or.inr (Or.inr rfl)) (hd : (x == ("__debug__" : Str)) = false := by decide) (hcd : (x == ("__classdict__" : Str)) = false := by decide)
    (hns : NoSl b := by exact fun _ _ => rfl) : GE X (.Subscript (.Name x p) b pos) C d C := fun F H σ S Q q => by
  refine wpE_of (pe_dget (un1 hrm) (pe_var hN hv hd hcd) pe_wp hns) ?_
  obtain ⟨l, _, e0, _, _⟩ := hs F H _ S.ex (S.sl i _ hC)
  refine ⟨_, e0, ?_⟩
  refine hb F H σ S _ fun y F2 H2 s2 S2 r2 => ?_
  cases r2
  obtain ⟨l', es, e1, hrd, rk⟩ := hs F2 H2 _ S2.ex (S2.sl i _ hC)
  rw [e0] at e1; cases e1
  rcases rk.val (k := j) with ⟨_, h2⟩ | ⟨v, d', h1, h2, h3⟩
  · rw [hg] at h2; cases h2
  · rw [hg] at h2; cases h2
    exact ⟨l, v, rfl, .inl ⟨es, .inl j, hrd, rfl, h1.symm⟩, q v F2 H2 s2 S2 h3⟩
/-- x.get(k, e) -/
theorem g_dgetD {k : Nat} {apos : Pos} (i : Nat) (hrm : RoomG k X.A) (hC : C[i]? = some s) (hs : DRd s kvs) (hb : GE X b C (.int j) C) (hc : GE X c C d1 C) (hg : (dget kvs j).getD d1 = d) (m : M2 X (.Name x p) "get" apos b c pos) (hN : X.N[i]? = some x := by rfl) (hv : Vis X.env.scope x := by first | exact Or.inl rfl | exact Or.inr (Or.inl rfl) | exact Or.inr (Or.inr rfl)) (hd : (x == ("__debug__" : Str)) = false := by decide) (hcd : (x == ("__classdict__" : Str)) = false := by decide) :
    GE X (.Call (.Attribute (.Name x p) "get" apos) [b, c] [] pos) C d C := fun F H σ S Q q => by
  refine wpE_of (pe_dget2 (un1 hrm) (pe_var hN hv hd hcd) pe_wp pe_wp m) ?_
  obtain ⟨l, es0, e0, hrd0, _⟩ := hs F H _ S.ex (S.sl i _ hC)
  refine ⟨_, e0, l, rfl, .inl ⟨es0, hrd0⟩, ?_⟩
  refine hb F H σ S _ fun y F1 H1 s1 S1 r1 => hc F1 H1 σ S1 _ fun z F2 H2 s2 S2 r2 => ?_
  cases r1
  obtain ⟨l', es, e1, hrd, rk⟩ := hs F2 H2 _ S2.ex (S2.sl i _ hC)
  rw [e0] at e1; cases e1
  rcases rk.val (k := j) with ⟨h1, h2⟩ | ⟨v, d', h1, h2, h3⟩
  · refine ⟨none, .inl ⟨es, .inl j, hrd, rfl, h1.symm⟩, q _ F2 H2 (s1.trans s2) S2 ?_⟩
    rw [h2] at hg; subst hg; exact r2
  · refine ⟨some v, .inl ⟨es, .inl j, hrd, rfl, h1.symm⟩, q _ F2 H2 (s1.trans s2) S2 ?_⟩
    rw [h2] at hg; subst hg; exact h3
theorem val_some {F : Hp} {es : List (Key × V)} (rk : RK F es kvs) : (valV es (.inl j)).isSome = (dget kvs j).isSome := by
  rcases rk.val (k := j) with ⟨h1, h2⟩ | ⟨v, d', h1, h2, _⟩ <;> rw [h1, h2] <;> rfl
def rDin (neg : Bool) : R2 := fun y x H Q => ∃ a o, x = .ref a ∧ DGet H a y o ∧ Q (.bl (if neg then !o.isSome else o.isSome)) H
theorem op_din {k : Nat} (hrm : RoomG k X.A) : OpR X (compareOp .In) (rDin false) := by
  intro pins s σ H x y v u Q I rx ry h
  obtain ⟨a, o, rfl, g, q⟩ := h
  obtain rfl : u = Value.ref a := ry
  exact d_in (un1 hrm) I g rx fun s3 I3 => ⟨.bl o.isSome, H, I3, rfl, q⟩
theorem op_dnotin {k : Nat} (hrm : RoomG k X.A) : OpR X (compareOp .NotIn) (rDin true) := by
  intro pins s σ H x y v u Q I rx ry h
  obtain ⟨a, o, rfl, g, q⟩ := h
  obtain rfl : u = Value.ref a := ry
  exact d_notIn (un1 hrm) I g rx fun s3 I3 => ⟨.bl (!o.isSome), H, I3, rfl, q⟩
/-- k in x, k not in x -/
theorem gt_din {k : Nat} (i : Nat) (hrm : RoomG k X.A) (hC : C[i]? = some s) (hs : DRd s kvs) (hb : GE X b C (.int j) C) (hN : X.N[i]? = some x := by rfl) (hv : Vis X.env.scope x := by first | exact Or.inl rfl | exact Or.inr (Or.inl rfl) | exact Or.inr (Or.inr rfl)) (hd : (x == ("__debug__" : Str)) = false := by decide) (hcd : (x == ("__classdict__" : Str)) = false := by decide) :
    GT X (.Compare b [.In] [.Name x p] pos) C ((dget kvs j).isSome) C := fun F H σ S Q q => by
  refine wpT_of (pt_cmpR (op_din hrm) pe_wp (pe_var hN hv hd hcd) rfl) ?_
  refine hb F H σ S _ fun y F2 H2 s2 S2 r2 => ?_
  cases r2
  obtain ⟨l, es, e0, hrd, rk⟩ := hs F2 H2 _ S2.ex (S2.sl i _ hC)
  refine ⟨_, e0, l, valV es (.inl j), rfl, .inl ⟨es, .inl j, hrd, rfl, rfl⟩, _, rfl, ?_⟩
  show Q ((valV es (.inl j)).isSome) H2
  rw [val_some rk]
  exact q F2 H2 s2 S2
theorem gt_dnotin {k : Nat} (i : Nat) (hrm : RoomG k X.A) (hC : C[i]? = some s) (hs : DRd s kvs) (hb : GE X b C (.int j) C) (hN : X.N[i]? = some x := by rfl) (hv : Vis X.env.scope x := by first | exact Or.inl rfl | exact Or.inr (Or.inl rfl) | exact Or.inr (Or.inr rfl)) (hd : (x == ("__debug__" : Str)) = false := by decide) (hcd : (x == ("__classdict__" : Str)) = false := by decide) :
    GT X (.Compare b [.NotIn] [.Name x p] pos) C (!(dget kvs j).isSome) C := fun F H σ S Q q => by
  refine wpT_of (pt_cmpR (op_dnotin hrm) pe_wp (pe_var hN hv hd hcd) rfl) ?_
  refine hb F H σ S _ fun y F2 H2 s2 S2 r2 => ?_
  cases r2
  obtain ⟨l, es, e0, hrd, rk⟩ := hs F2 H2 _ S2.ex (S2.sl i _ hC)
  refine ⟨_, e0, l, valV es (.inl j), rfl, .inl ⟨es, .inl j, hrd, rfl, rfl⟩, _, rfl, ?_⟩
  show Q (!(valV es (.inl j)).isSome) H2
  rw [val_some rk]
  exact q F2 H2 s2 S2
/-- a dict of one's own is locked: it may be walked from here on, it stays -/
theorem gs_lock {st : List Stmt} (i : Nat) (hC : C[i]? = some (.ob (oiS kvs))) (h : GS X st (C.set i (.sp (sdS kvs))) P) : GS X st C P := fun F H σ D' S q pins s0 I => by
  obtain ⟨l, u, e0, g1, ⟨es, rfl, rk⟩, g3⟩ := S.sl i _ hC
  obtain ⟨od, I'⟩ := I.lock g1 trivial
  have ok : SlOk F (upd H l (.frz od (.dK es))) σ[i]? (.ob ⟨fun _ _ o => ∀ ps, o ≠ .tbl ps, id, fun _ h => h⟩) := ⟨l, _, e0, upd_same, (by intro _ z; cases z), g3⟩
  have S1 := S.wr hC rfl e0 ok rfl
  have hC1 : (C.set i (.ob ⟨fun _ _ o => ∀ ps, o ≠ .tbl ps, id, fun _ h => h⟩))[i]? = some (.ob ⟨fun _ _ o => ∀ ps, o ≠ .tbl ps, id, fun _ h => h⟩) := List.getElem?_set_self (List.getElem?_eq_some_iff.mp hC).1
  have S2 : Sat F (upd H l (.frz od (.dK es))) σ ((C.set i (.ob ⟨fun _ _ o => ∀ ps, o ≠ .tbl ps, id, fun _ h => h⟩)).set i .any) := S1.re rfl trivial
  have S3 := S2.freeze g3 upd_same (S1.off hC1 rfl e0 rfl)
  have e' : Ext F (upd F l (.frz od (.dK es))) := Ext.new g3
  have S4 : Sat (upd F l (.frz od (.dK es))) (upd H l (.frz od (.dK es))) σ (((C.set i (.ob ⟨fun _ _ o => ∀ ps, o ≠ .tbl ps, id, fun _ h => h⟩)).set i .any).set i (.sp (sdS kvs))) := S3.re rfl ⟨_, e0, l, od, es, rfl, upd_same, rk.mono e'⟩
  rw [List.set_set, List.set_set] at S4
  have oq : Own σ C l := ⟨i, _, hC, rfl, e0⟩
  have st : Stp F H (Own σ C) (upd F l (.frz od (.dK es))) (upd H l (.frz od (.dK es))) (Own σ (C.set i (.sp (sdS kvs)))) := ⟨e', (fun a u h n => by
    have ne : a ≠ l := fun z => n (z ▸ oq)
    refine ⟨fun _ => by rw [upd_ne ne]; exact h, fun o => n (o.set_sh rfl), fun z => by rw [upd_ne ne]; exact z⟩), (fun a h => by
    by_cases ne : a = l
    · subst ne; rw [upd_same] at h; cases h
    · rw [upd_ne ne] at h; exact h), fun t => (t.new g3 (by intro _ z; cases z)).upd (by intro _ z; cases z)⟩
  exact h _ _ σ D' S4 (fun o ho => (q o ho).step st) pins s0 I'
/-- its keys, one by one -/
theorem gi_keys {tg : Expr} (i : Nat) (hC : C[i]? = some (.sp (sdS kvs))) (hN : X.N[i]? = some x := by rfl) (hv : Vis X.env.scope x := by first | exact Or.inl rfl | exact Or.inr (Or.inl rfl) | exact Or.inr (Or.inr rfl)) (hd : (x == ("__debug__" : Str)) = false := by decide) (hcd : (x == ("__classdict__" : Str)) = false := by decide) :
    GI X tg (.Name x p) C ((kvs.map (·.1)).map .int) C := fun F H σ S Rr q => by
  refine wpI_of (pi_keys (pe_var hN hv hd hcd)) ?_
  obtain ⟨_, e0, l, ob, es, rfl, h2, rk⟩ := S.sl i _ hC
  refine ⟨_, e0, l, ob, rfl, .inl ⟨es, S.ex _ _ h2, q _ F H .refl S ?_⟩⟩
  have hl : es.length = ((kvs.map (·.1)).map PyData.int).length := by rw [List.length_map, List.length_map, rk.length]
  refine ⟨fun i H F' e1 e2 hi => ⟨e2 _ _ (e1 _ _ h2), by rw [hl]; exact hi⟩, fun i H F' x H' e1 e2 y => ?_, fun H F' e1 e2 => ⟨e2 _ _ (e1 _ _ h2), by rw [hl]; exact Nat.le_refl _⟩⟩
  obtain ⟨rfl, k, v, y1, rfl⟩ := y
  refine ⟨F', .refl e2, fun d hd => ?_⟩
  have hk : (es.map (·.1))[i]? = some k := by rw [List.getElem?_map, y1]; rfl
  rw [rk.keys, List.getElem?_map] at hk
  rw [List.getElem?_map] at hd
  cases e : (kvs.map (·.1))[i]? with
  | none => rw [e] at hk; cases hk
  | some n =>
    rw [e] at hk hd
    cases hk
    cases hd
    exact .int n
def rSortK : List V → Hp → VK → Prop := fun xs H Q => ∃ (a : Addr) (kvs : List (Key × V)) (ks : List Int), xs = [.ref a] ∧ Rd H a (.dK kvs) ∧ kvs.map (·.1) = ks.map Sum.inl ∧ ks.length < 64 ∧
    ∀ (ys : List Int) (p : Addr), ys.Perm ks → ys.Pairwise (· ≤ ·) → H p = none → Q (.ref p) (upd H p (.lst (ys.map V.int)))
theorem ra_ints {F : Hp} : ∀ ns : List Int, RA F (ns.map V.int) (ns.map .int)
  | [] => .nil
  | n :: ns => .cons (.int n) (ra_ints ns)
/-- sorted(x): its keys in their order -/
theorem g_sortedK (i : Nat) (hc : X.calm = true) (hC : C[i]? = some s) (hs : DRd s kvs) (hl : kvs.length < 64) (hm : X.mg "sorted" = none) (hg : Gl X "sorted" := by rfl) (he : starEach [.Name x p2] X.env = (false, eval (.Name x p2) X.env) :: starEach [] X.env := by rfl) (hpl : (backTo pos (starEach [] X.env)).any (·.1) = false := by rfl)
    (hN : X.N[i]? = some x := by rfl) (hv : Vis X.env.scope x := by first | exact Or.inl rfl | exact Or.inr (Or.inl rfl) | exact Or.inr (Or.inr rfl)) (hd : (x == ("__debug__" : Str)) = false := by decide) (hcd : (x == ("__classdict__" : Str)) = false := by decide) :
    GL X (.Call (.Name "sorted" p) [.Name x p2] [] pos) C ((isort leI (kvs.map (·.1))).map .int) C := fun F H σ S Q q => by
  refine wpE_of (pe_callB (r := rSortK) (call_sortedDI hc) hg hm (by decide +kernel) (pa_cons (pe_var hN hv hd hcd) pa_nil he) (by decide) (by decide) he hpl) ?_
  obtain ⟨l, es, e0, hrd, rk⟩ := hs F H _ S.ex (S.sl i _ hC)
  refine ⟨_, e0, l, es, kvs.map (·.1), rfl, hrd, rk.keys, by rw [List.length_map]; exact hl, fun ys p hp hso hn => ?_⟩
  have e : ys = isort leI (kvs.map (·.1)) := perm_sorted_eq (hp.trans isort_perm.symm) hso isort_ints
  subst e
  exact GL.of q .refl S hn (ra_ints _)
end
end G
/-! G19: dicts with int keys, typed. -/
namespace G
open PySem L2 PyProof.Rows
abbrev eK {α : Type} (ε : α → D) (kvs : List (Int × α)) : List (Int × D) := kvs.map fun kv => (kv.1, ε kv.2)
theorem dget_map {α : Type} {ε : α → D} {k : Int} : ∀ {kvs : List (Int × α)}, dget (eK ε kvs) k = (dget kvs k).map ε
  | [] => rfl
  | kv :: kvs => by
    have ih := dget_map (ε := ε) (k := k) (kvs := kvs)
    have e1 : dget (eK ε (kv :: kvs)) k = if kv.1 = k then some (ε kv.2) else dget (eK ε kvs) k := by
      unfold dget
      by_cases h : kv.1 = k <;> simp [h, List.find?_cons]
    have e2 : dget (kv :: kvs) k = if kv.1 = k then some kv.2 else dget kvs k := by
      unfold dget
      by_cases h : kv.1 = k <;> simp [h, List.find?_cons]
    rw [e1, e2, ih]
    by_cases h : kv.1 = k <;> simp [h]
theorem dput_map {α : Type} {ε : α → D} {k : Int} {v : α} {kvs : List (Int × α)} : dput (eK ε kvs) k (ε v) = eK ε (dput kvs k v) := by
  unfold dput
  have e : ((eK ε kvs).any fun kv => decide (kv.1 = k)) = kvs.any fun kv => decide (kv.1 = k) := by
    rw [List.any_map]; rfl
  rw [e]
  split
  · show (kvs.map _).map _ = (kvs.map _).map _
    rw [List.map_map, List.map_map]
    congr 1
    funext kv
    by_cases h : kv.1 = k <;> simp [h]
  · show _ = (kvs ++ [(k, v)]).map _
    rw [List.map_append]; rfl
theorem keys_map {α : Type} {ε : α → D} {kvs : List (Int × α)} : (eK ε kvs).map (·.1) = kvs.map (·.1) := by rw [List.map_map]; rfl
section
variable {X : Cx} {a b c e : Expr} {C C1 C2 C3 C' : Ct} {d d1 d2 d3 : D} {ds : List D} {pos p p2 p3 : Pos} {j : Int} {x : Str} {P : Out → Prop} {rest : List Stmt} {α : Type} {ε : α → D} {kvs : List (Int × α)} {s : Sl} {v u : α}
theorem t_dput {k : Nat} (i : Nat) (hrm : RoomG k X.A) (hz : szOk (kvs.length + 1) = some ()) (h : GE X e C (ε v) C1) (hC1 : C1[i]? = some (.ob (oiS (eK ε kvs)))) (hb : GE X b C1 (.int j) C1) (hr : GS X rest (C1.set i (.ob (oiS (eK ε (dput kvs j v))))) P)
    (hN : X.N[i]? = some x := by rfl) (hv : Vis X.env.scope x := by first | exact Or.inl rfl | exact Or.inr (Or.inl rfl) | exact Or.inr (Or.inr rfl)) (hd : (x == ("__debug__" : Str)) = false := by decide) (hcd : (x == ("__classdict__" : Str)) = false := by decide)
    (hs : swapsWith e (some (.Subscript (.Name x p2) b p3)) pos.line X.env = pure false := by rfl) : GS X (.Assign [.Subscript (.Name x p2) b p3] e pos :: rest) C P := by
  rw [← dput_map] at hr
  exact gs_dput i hrm (by rw [List.length_map]; exact hz) h hC1 hb hr hN hv hd hcd hs
theorem t_dget {k : Nat} (i : Nat) (hrm : RoomG k X.A) (hC : C[i]? = some s) (hs : DRd s (eK ε kvs)) (hb : GE X b C (.int j) C) (hg : dget kvs j = some v) (hN : X.N[i]? = some x := by rfl) (hv : Vis X.env.scope x := by first | exact Or.inl rfl | exact Or.inr (Or.inl rfl) | exact Or.inr (Or.inr rfl)) (hd : (x == ("__debug__" : Str)) = false := by decide) (hcd : (x == ("__classdict__" : Str)) = false := by decide)
    (hns : NoSl b := by exact fun _ _ => rfl) : GE X (.Subscript (.Name x p) b pos) C (ε v) C := g_dget i hrm hC hs hb (by rw [dget_map, hg]; rfl) hN hv hd hcd hns
theorem t_dgetD {k : Nat} {apos : Pos} (i : Nat) (hrm : RoomG k X.A) (hC : C[i]? = some s) (hs : DRd s (eK ε kvs)) (hb : GE X b C (.int j) C) (hc : GE X c C (ε u) C) (m : M2 X (.Name x p) "get" apos b c pos := by exact ⟨rfl, rfl, rfl, rfl⟩) (hN : X.N[i]? = some x := by rfl) (hv : Vis X.env.scope x := by first | exact Or.inl rfl | exact Or.inr (Or.inl rfl) | exact Or.inr (Or.inr rfl)) (hd : (x == ("__debug__" : Str)) = false := by decide) (hcd : (x == ("__classdict__" : Str)) = false := by decide) :
    GE X (.Call (.Attribute (.Name x p) "get" apos) [b, c] [] pos) C (ε ((dget kvs j).getD u)) C := g_dgetD i hrm hC hs hb hc (by rw [dget_map]; cases dget kvs j <;> rfl) m hN hv hd hcd
theorem t_din {k : Nat} (i : Nat) (hrm : RoomG k X.A) (hC : C[i]? = some s) (hs : DRd s (eK ε kvs)) (hb : GE X b C (.int j) C) (hN : X.N[i]? = some x := by rfl) (hv : Vis X.env.scope x := by first | exact Or.inl rfl | exact Or.inr (Or.inl rfl) | exact Or.inr (Or.inr rfl)) (hd : (x == ("__debug__" : Str)) = false := by decide) (hcd : (x == ("__classdict__" : Str)) = false := by decide) :
    GT X (.Compare b [.In] [.Name x p] pos) C ((dget kvs j).isSome) C := by
  have := gt_din (p := p) (pos := pos) i hrm hC hs hb hN hv hd hcd
  rw [dget_map, Option.isSome_map] at this
  exact this
theorem t_dnotin {k : Nat} (i : Nat) (hrm : RoomG k X.A) (hC : C[i]? = some s) (hs : DRd s (eK ε kvs)) (hb : GE X b C (.int j) C) (hN : X.N[i]? = some x := by rfl) (hv : Vis X.env.scope x := by first | exact Or.inl rfl | exact Or.inr (Or.inl rfl) | exact Or.inr (Or.inr rfl)) (hd : (x == ("__debug__" : Str)) = false := by decide) (hcd : (x == ("__classdict__" : Str)) = false := by decide) :
    GT X (.Compare b [.NotIn] [.Name x p] pos) C (!(dget kvs j).isSome) C := by
  have := gt_dnotin (p := p) (pos := pos) i hrm hC hs hb hN hv hd hcd
  rw [dget_map, Option.isSome_map] at this
  exact this
theorem t_keys {tg : Expr} (i : Nat) (hC : C[i]? = some (.sp (sdS (eK ε kvs)))) (hN : X.N[i]? = some x := by rfl) (hv : Vis X.env.scope x := by first | exact Or.inl rfl | exact Or.inr (Or.inl rfl) | exact Or.inr (Or.inr rfl)) (hd : (x == ("__debug__" : Str)) = false := by decide) (hcd : (x == ("__classdict__" : Str)) = false := by decide) :
    GI X tg (.Name x p) C ((kvs.map (·.1)).map .int) C := by
  have := gi_keys (tg := tg) (p := p) i hC hN hv hd hcd
  rw [keys_map] at this
  exact this
theorem t_sortedK (i : Nat) (hc : X.calm = true) (hC : C[i]? = some s) (hs : DRd s (eK ε kvs)) (hl : gd (decide (kvs.length < 64)) = some ()) (hm : X.mg "sorted" = none) (hg : Gl X "sorted" := by rfl) (he : starEach [.Name x p2] X.env = (false, eval (.Name x p2) X.env) :: starEach [] X.env := by rfl) (hpl : (backTo pos (starEach [] X.env)).any (·.1) = false := by rfl)
    (hN : X.N[i]? = some x := by rfl) (hv : Vis X.env.scope x := by first | exact Or.inl rfl | exact Or.inr (Or.inl rfl) | exact Or.inr (Or.inr rfl)) (hd : (x == ("__debug__" : Str)) = false := by decide) (hcd : (x == ("__classdict__" : Str)) = false := by decide) :
    GL X (.Call (.Name "sorted" p) [.Name x p2] [] pos) C ((isort leI (kvs.map (·.1))).map .int) C := by
  have := g_sortedK (p := p) (p2 := p2) (pos := pos) i hc hC hs (by rw [List.length_map]; exact of_decide_eq_true (gd_ok hl)) hm hg he hpl hN hv hd hcd
  rw [keys_map] at this
  exact this
end
/-! ### data that turn out to be tuples of whole numbers -/
def allI : List D → Option (List Int)
  | [] => some []
  | d :: ds => match toI d with
    | none => none
    | some i => match allI ds with
      | none => none
      | some is => some (i :: is)
theorem allI_eq : ∀ {ds : List D} {is : List Int}, allI ds = some is → ds = is.map PyData.int
  | [], _, h => by cases h; rfl
  | d :: ds, is, h => by
    unfold allI at h
    cases e : toI d with
    | none => rw [e] at h; cases h
    | some i =>
      rw [e] at h
      cases e2 : allI ds with
      | none => rw [e2] at h; cases h
      | some is' =>
        rw [e2] at h
        cases h
        rw [List.map_cons, ← allI_eq e2]
        cases d with
        | int j => cases e; rfl
        | _ => cases e
theorem allI_map : ∀ (is : List Int), allI (is.map PyData.int) = some is
  | [] => rfl
  | i :: is => by show (match allI (is.map PyData.int) with | none => none | some is => some (i :: is)) = _; rw [allI_map is]
def toW : D → Option (List Int)
  | .tuple ds => allI ds
  | _ => none
theorem toW_eq {d : D} {w : List Int} (h : toW d = some w) : d = eT PyData.int w := by
  cases d with
  | tuple ds => rw [allI_eq (show allI ds = some w from h)]
  | _ => cases h
theorem GE.toW {X : Cx} {e : Expr} {C C1 : Ct} {d : D} {w : List Int} (h : toW d = some w) (g : GE X e C d C1) : GE X e C (eT PyData.int w) C1 := by
  rw [← toW_eq h]; exact g
end G
/-! G20: sorted of a tuple of whole numbers; dict of a list of pairs. -/
namespace G
open PySem L2 PyProof.Rows
section
variable {X : Cx} {a b c e : Expr} {C C1 C2 C3 C' : Ct} {d d1 d2 d3 : D} {ds : List D} {pos p p2 p3 : Pos} {j : Int} {x : Str} {P : Out → Prop} {rest : List Stmt}
def rSortTI (K : PySem.W.Frag) : List V → Hp → VK → Prop := fun vs H Q => ∃ (a : Addr) (ns : List Int), vs = [V.ref a] ∧ SqT K H a (ns.map V.int) ∧ ∀ l, H l = none → Q (.ref l) (upd H l (.lst ((isort leI ns).map V.int)))
theorem cr_sortTI : CallR X (.builtin "sorted") (rSortTI X.K) := by
  intro pins s σ H vs us Q I r h
  obtain ⟨a, ns, rfl, hs, q⟩ := h
  obtain ⟨its, rv, ⟨o, ho, hc, n, hd⟩, hz⟩ := I.tuple hs
  rw [Vals.ref1 r]
  have hi := rv.ints
  have hzl : its.length ≤ sizeLine := by rw [← rv.length]; exact hz
  refine Calls.call_function_entry PyProof.Rows.kind_sorted PyProof.Rows.plain_sorted PyProof.Rows.entry_sorted (PyProof.Rows.args_sorted1 _) ?_
  unfold Builtin.«sorted»
  refine wpAny_bind (m := checkCount "sorted" 1 1 _) (wpAny_pure ?_)
  refine wpAny_bind (wpAny_collect_seq a (.inr rfl) ho hc hd (fun h' hk => ?_) (by rw [List.size_toArray]; exact hzl))
  have I1 : L2.Inv X pins σ H { s with heap := h' } := I.kept (t' := s.toks) hk
  refine wpAny_bind (wpAny_newList ?_ hzl)
  have hoL : (h'.push (seqObj "list" its.toArray 0)).get? h'.objs.size = some (seqObj "list" its.toArray 0) := Heap.get?_push_size _ rfl
  show wpAny _ _ _ _ _ { s with heap := h'.push (seqObj "list" its.toArray 0) }
  refine wpAny_bind (wpAny_holding (wpAny_call_entry PyProof.Rows.slot_list_sort ⟨_, hoL, rfl⟩ PyProof.Rows.entry_list_sort
    (SrtO.list_sort_ord (s := { s with heap := h'.push (seqObj "list" its.toArray 0) }) SrtO.swo_int hoL hzl (fun h2 => SrtO.ints_sortable hi h2) fun out h1 h2 => ⟨_, rfl, ?_⟩) (PyProof.Rows.args_list_sort _)))
  obtain ⟨k1, k2, k3⟩ := SrtO.ints_out hi h1 h2
  have eo : out.map SrtO.iv = isort leI ns := perm_sorted_eq (k2.trans isort_perm.symm) k3 isort_ints
  rw [eo] at k1
  obtain ⟨ep, he'⟩ := PyProof.Rows.sortedHeap_at (vs := its) (out := out.toArray) hoL
  have hlen : ((isort leI ns).map V.int).length ≤ sizeLine := by
    rw [List.length_map, isort_length]
    rw [List.length_map] at hz
    exact hz
  refine wpAny_pure ⟨_, rfl, .ref h'.objs.size, upd H h'.objs.size (.lst ((isort leI ns).map V.int)), I1.laid (t' := s.toks) (fun b u e => ?_) (Nat.le_refl _) ⟨hlen, out, ep, vals_of_ints k1, he'⟩, rfl, q _ (I1.hok.fresh (Nat.le_refl _))⟩
  have hb : b < h'.objs.size := Heap.lt_size e
  rw [PyProof.Rows.sortedHeap_old (Nat.ne_of_lt hb) (by rw [size_push']; exact Nat.lt_succ_of_lt hb)]
  exact Heap.get?_push_of_some _ e
theorem g_sortTI {is : List Int} (hm : X.mg "sorted" = none) (ha : GV X a C (.tuple (is.map .int)) C1) (hg : Gl X "sorted" := by rfl) (he : starEach [a] X.env = (false, eval a X.env) :: starEach [] X.env := by rfl) : GL X (.Call (.Name "sorted" p) [a] [] pos) C ((isort leI is).map .int) C1 :=
  g_b1L (r := rSortTI X.K) cr_sortTI (by decide +kernel) hm ha (fun F H v e r Q q => by
    obtain ⟨a, vs, rfl, f, h, r'⟩ := r.tuple e
    cases r'.ints
    exact ⟨a, is, rfl, .of h, fun l hl => q l _ hl (ra_ints _)⟩) hg (by decide) (by decide) he
/-! ### dict of pairs -/
def dmerge {β : Type} (ps : List (Int × β)) : List (Int × β) := ps.foldl (fun acc kv => dput acc kv.1 kv.2) []
theorem RK.merge {F : Hp} {more : List (Key × V)} {mo : List (Int × D)} (r : RK F more mo) : ∀ {es : List (Key × V)} {kvs : List (Int × D)}, RK F es kvs → RK F (mergeK es more) (mo.foldl (fun acc kv => dput acc kv.1 kv.2) kvs) := by
  induction r with
  | nil => intro es kvs h; exact h
  | cons r t ih => intro es kvs h; exact ih (h.put r)
/-- the pairs behind a list of tuples of two -/
theorem pairs_rk {F H : Hp} {K : PySem.W.Frag} (e : Ext F H) : ∀ {vs : List V} {ps : List (Int × D)}, RA F vs (ps.map fun kv => .tuple [.int kv.1, kv.2]) → ∃ (as : List Addr) (es : List (Key × V)), vs = as.map V.ref ∧ RK F es ps ∧ Paired (fun p kv => SqT K H p [kV kv.1, kv.2]) as es
  | _, [], h => by cases h; exact ⟨[], [], rfl, .nil, .nil⟩
  | _, kv :: ps, h => by
    cases h with
    | cons r t =>
      obtain ⟨as, es, h1, h2, h3⟩ := pairs_rk (K := K) e t
      cases r with
      | @tup a xs _ f ra =>
        cases ra with
        | cons r1 ra =>
          cases ra with
          | cons r2 ra =>
            cases ra
            cases r1
            exact ⟨a :: as, (.inl kv.1, _) :: es, by rw [h1]; rfl, .cons r2 h2, .cons (.of (e _ _ f)) h3⟩
theorem dmerge_map {α : Type} {ε : α → D} : ∀ (ps : List (Int × α)) (kvs : List (Int × α)), (eK ε ps).foldl (fun acc kv => dput acc kv.1 kv.2) (eK ε kvs) = eK ε (ps.foldl (fun acc kv => dput acc kv.1 kv.2) kvs)
  | [], _ => rfl
  | p :: ps, kvs => by
    show (eK ε ps).foldl _ (dput (eK ε kvs) p.1 (ε p.2)) = _
    rw [dput_map, dmerge_map ps]
    rfl
/-- x = dict(a list of pairs) -/
theorem gs_dictP {α : Type} {ε : α → D} {ps : List (Int × α)} (i : Nat) (hc : X.calm = true) (hN : X.N.Nodup) (hm : X.mg "dict" = none) (h : GV X e C (eL (eP PyData.int ε) ps) C1) (hr : GS X rest (C1.set i (.ob (oiS (eK ε (dmerge ps))))) P) (hl : i < C1.length := by exact Nat.le_of_ble_eq_true rfl) (hi : X.N[i]? = some x := by rfl) (hx : Loc X.env.scope x := by first | exact .inl rfl | exact .inr rfl)
    (hg : Gl X "dict" := by rfl) (he : starEach [e] X.env = (false, eval e X.env) :: starEach [] X.env := by rfl) (hpl : (backTo p3 (starEach [] X.env)).any (·.1) = false := by rfl)
    (hs : swapsWith (.Call (.Name "dict" p) [e] [] p3) (some (.Name x p2)) pos.line X.env = pure false := by rfl) (hf : X.fn x = true ∨ X.env.scope.names.lookup x = some .local := by first | exact .inl rfl | exact .inr rfl) : GS X (.Assign [.Name x p2] (.Call (.Name "dict" p) [e] [] p3) pos :: rest) C P := fun F H σ D' S q => by
  refine wpSs_of (pss_cons (ps_set hN hi hx (pe_callTy (call_dictP hc) hg hm (by decide +kernel) (pa_cons pe_wp pa_nil he) (by decide) (by decide) he hpl) hs hf) pss_wp) ?_
  refine h F H σ S _ fun v F1 H1 s1 S1 r1 => ?_
  obtain ⟨l, vs, rfl, hl1, ra⟩ := (r1.rd S1).list S1.ex
  have ra' : RA F1 vs ((eK ε ps).map fun kv => .tuple [.int kv.1, kv.2]) := by rw [List.map_map]; exact ra
  obtain ⟨as, es, rfl, rk, pp⟩ := pairs_rk (K := X.K) S1.ex ra'
  refine ⟨l, as, es, rfl, .inl hl1, pp, fun q0 hq => ?_⟩
  have x1 : XS F1 H1 F1 (upd H1 q0 (.dK (mergeK [] es))) := XS.fresh S1.ex hq
  have S2 := S1.xs x1
  have no : ¬ Own σ C1 q0 := own_new S1 hq
  have st : Stp F H (Own σ C) F1 (upd H1 q0 (.dK (mergeK [] es))) (Own (σ.set i (some (.ref q0))) (C1.set i (.ob (oiS (eK ε (dmerge ps)))))) := (s1.trans x1.stp).ol (s1.t q0 hq)
  have rm : RK F1 (mergeK [] es) (eK ε (dmerge ps)) := by
    have := rk.merge (F := F1) (es := []) (kvs := eK ε []) .nil
    rw [dmerge_map] at this
    exact this
  exact hr F1 _ _ D' (S2.asg hl ⟨q0, _, rfl, upd_same, ⟨_, rfl, rm⟩, S1.ex.free hq⟩ fun _ a e => by cases e; exact own_any no) fun o ho => (q o ho).step st
end
theorem GI.re {X : Cx} {tg e : Expr} {C C1 C1' : Ct} {ds : List D} (g : GI X tg e C ds C1) (h : C1 = C1') : GI X tg e C ds C1' := h ▸ g
end G
/-! G21: dicts of one's own with keys that are nested tuples. -/
namespace G
open PySem L2 PyProof.Rows
/-- entries: key, where its tuple stands, value -/
abbrev NEs := List (NestedKey × Addr × Value)
def NkO (P : Program) (w : World) (a : Addr) (xs : NEs) : HO := .ext fun h => (a == sysModules) = false ∧ xs.length ≤ sizeLine ∧ ∃ o es ep, h.get? a = some o ∧ o.ExactDict ∧ o.data = .dict es ep ∧ es.toList = xs.map (entryOfKey (nestedKind P w)) ∧ (xs.map (·.1)).Nodup
/-- entries and what they stand for -/
inductive RN (F : Hp) : NEs → List (NestedKey × D) → Prop
  | nil : RN F [] []
  | cons {k : NestedKey} {b : Addr} {v : V} {u : Value} {d : D} {xs : NEs} {kvs : List (NestedKey × D)} : k.depth ≤ 8 → R F (.ref b) k.data → RelV v u → R F v d → RN F xs kvs → RN F ((k, b, u) :: xs) ((k, d) :: kvs)
theorem RN.mono {F F' : Hp} (e : Ext F F') : ∀ {xs kvs}, RN F xs kvs → RN F' xs kvs
  | _, _, .nil => .nil
  | _, _, .cons h1 h2 h3 h4 t => .cons h1 (h2.mono e) h3 (h4.mono e) (RN.mono e t)
theorem RN.length {F : Hp} : ∀ {xs kvs}, RN F xs kvs → xs.length = kvs.length
  | _, _, .nil => rfl
  | _, _, .cons _ _ _ _ t => congrArg Nat.succ (RN.length t)
theorem RN.at {F : Hp} {k : NestedKey} : ∀ {xs kvs}, RN F xs kvs → (atKey xs k = none ∧ dget kvs k = none) ∨ ∃ b u v d, atKey xs k = some (b, u) ∧ dget kvs k = some d ∧ RelV v u ∧ R F v d
  | _, _, .nil => .inl ⟨rfl, rfl⟩
  | _, _, .cons (k := k0) (b := b) (v := v) (u := u) (d := d) _ _ h3 h4 t => by
    by_cases h : k0 = k
    · subst h
      exact .inr ⟨b, u, v, d, by simp [atKey], by simp [dget], h3, h4⟩
    · rcases RN.at (k := k) t with ⟨h1, h2⟩ | ⟨b', u', v', d', h1, h2, q⟩
      · exact .inl ⟨by simpa [atKey, List.find?_cons, h] using h1, by simpa [dget, List.find?_cons, h] using h2⟩
      · exact .inr ⟨b', u', v', d', by simpa [atKey, List.find?_cons, h] using h1, by simpa [dget, List.find?_cons, h] using h2, q⟩
theorem RN.some {F : Hp} {k : NestedKey} {xs kvs} (r : RN F xs kvs) : (atKey xs k).isSome = (dget kvs k).isSome := by
  rcases r.at (k := k) with ⟨h1, h2⟩ | ⟨b', u', v', d', h1, h2, _⟩ <;> rw [h1, h2] <;> rfl
theorem dget_any {κ β : Type} [DecidableEq κ] (kvs : List (κ × β)) (k : κ) : (kvs.any fun kv => decide (kv.1 = k)) = (dget kvs k).isSome := by
  induction kvs with
  | nil => rfl
  | cons x xs ih =>
    by_cases h : x.1 = k
    · simp [dget, List.find?_cons, h]
    · simpa [dget, List.find?_cons, h] using ih
theorem RN.mapPut {F : Hp} {k : NestedKey} {v : V} {u : Value} {d : D} (rv : RelV v u) (rd : R F v d) : ∀ {xs kvs}, RN F xs kvs → RN F (xs.map (putAt k u)) (kvs.map fun kv => if kv.1 = k then (kv.1, d) else kv)
  | _, _, .nil => .nil
  | _, _, .cons (k := k0) h1 h2 h3 h4 t => by
    rw [List.map_cons, List.map_cons]
    unfold putAt
    by_cases h : k0 = k
    · subst h
      rw [if_pos rfl, if_pos rfl]
      exact .cons h1 h2 rv rd (RN.mapPut rv rd t)
    · rw [if_neg h, if_neg h]
      exact .cons h1 h2 h3 h4 (RN.mapPut rv rd t)
theorem RN.snoc {F : Hp} {k : NestedKey} {b : Addr} {v : V} {u : Value} {d : D} (g1 : k.depth ≤ 8) (g2 : R F (.ref b) k.data) (rv : RelV v u) (rd : R F v d) : ∀ {xs kvs}, RN F xs kvs → RN F (xs ++ [(k, b, u)]) (kvs ++ [(k, d)])
  | _, _, .nil => .cons g1 g2 rv rd .nil
  | _, _, .cons h1 h2 h3 h4 t => .cons h1 h2 h3 h4 (RN.snoc g1 g2 rv rd t)
theorem RN.put {F : Hp} {k : NestedKey} {b : Addr} {v : V} {u : Value} {d : D} {xs kvs} (r : RN F xs kvs) (g1 : k.depth ≤ 8) (g2 : R F (.ref b) k.data) (rv : RelV v u) (rd : R F v d) : RN F (storedH xs k b u) (dput kvs k d) := by
  unfold storedH dput
  rw [dget_any, r.some]
  split
  · exact r.mapPut rv rd
  · exact r.snoc g1 g2 rv rd
theorem storedH_len (xs : NEs) (k : NestedKey) (b : Addr) (u : Value) : (storedH xs k b u).length ≤ xs.length + 1 := by
  unfold storedH
  split
  · rw [List.length_map]; omega
  · rw [List.length_append]; exact Nat.le_refl _

mutual
theorem is_of {P : Program} {w : World} {H : Hp} {h : Heap} (ok : HOk P w H h) : ∀ {k : NestedKey} {v : V} {u : Value}, R H v k.data → RelV v u → NestedIs h k u
  | .none, v, u, r, q => by cases r; cases (show u = .none from q); exact .none
  | .num i, v, u, r, q => by cases r; obtain ⟨t, rfl⟩ := q; exact .int _ _
  | .text x, v, u, r, q => by cases r; obtain ⟨t, rfl⟩ := q; exact .text _ _
  | .tup ks, v, u, r, q => by
    cases r with
    | tup h1 h2 =>
      cases (show u = _ from q)
      obtain ⟨_, its, rv, o, ho, hc, n, hd⟩ := (show ObjOk P w H h _ (.tup _) from ok _ _ h1)
      exact .tup ho hc hd (by simpa using is_all ok h2 rv)
theorem is_all {P : Program} {w : World} {H : Hp} {h : Heap} (ok : HOk P w H h) : ∀ {ks : List NestedKey} {vs : List V} {us : List Value}, RA H vs (NestedKey.datas ks) → Vals vs us → NestedAll h ks us
  | [], _, _, r, q => by cases r; cases q; exact .nil
  | k :: ks, _, _, r, q => by
    cases r with
    | cons r1 r2 =>
      cases q with
      | cons q1 q2 => exact .cons (is_of ok r1 q1) (is_all ok r2 q2)
end
theorem RN.is {P : Program} {w : World} {F H : Hp} {h : Heap} (ok : HOk P w H h) (e : Ext F H) : ∀ {xs kvs}, RN F xs kvs → ∀ x ∈ xs, (nestedKind P w).is h x.1 x.2.1
  | _, _, .nil, _, hx => nomatch hx
  | _, _, .cons h1 h2 h3 h4 t, x, hx => by
    rcases List.mem_cons.mp hx with rfl | hx
    · exact ⟨is_of ok (h2.mono e) rfl, h1⟩
    · exact RN.is ok e t x hx
theorem nk_full {P : Program} {w : World} {F H : Hp} {h : Heap} {a : Addr} {xs : NEs} {kvs} (ok : HOk P w H h) (e : Ext F H) (g : H a = some (NkO P w a xs)) (r : RN F xs kvs) : (a == sysModules) = false ∧ xs.length ≤ sizeLine ∧ h.DictOfH (nestedKind P w) a xs := by
  obtain ⟨⟨h1, h2, o, es, ep, h3, h4, h5, h6, h7⟩, _⟩ := (show ObjOk P w H h a (NkO P w a xs) from ok a _ g)
  exact ⟨h1, h2, o, es, ep, h3, h4, h5, h6, r.is ok e, h7⟩
theorem nk_new {P : Program} {w : World} {H : Hp} {h : Heap} {a : Addr} {xs : NEs} (h1 : (a == sysModules) = false) (h2 : xs.length ≤ sizeLine) (g : h.DictOfH (nestedKind P w) a xs) : ObjOk P w H h a (NkO P w a xs) := by
  obtain ⟨o, es, ep, h3, h4, h5, h6, _, h7⟩ := g
  refine ⟨⟨h1, h2, o, es, ep, h3, h4, h5, h6, h7⟩, ⟨o, h3⟩, fun g1 g2 p k => ?_⟩
  obtain ⟨q1, q2, o', es', ep', q3, q4⟩ := p
  exact ⟨q1, q2, o', es', ep', k _ q3, q4⟩
theorem nk_nt {P : Program} {w : World} {a : Addr} {xs : NEs} : ∀ ps, NkO P w a xs ≠ .tbl ps := fun _ z => by unfold NkO at z; cases z
/-- the slot -/
def nkS (P : Program) (w : World) (kvs : List (NestedKey × D)) : OSpec := ⟨fun F a o => ∃ xs, o = NkO P w a xs ∧ RN F xs kvs, (fun ⟨_, e, _⟩ ps z => by rw [e] at z; exact nk_nt ps z), fun e ⟨xs, h, r⟩ => ⟨xs, h, r.mono e⟩⟩
/-- a key's data -/
def KD (k : NestedKey) (d : D) : Prop := k.data = d ∧ k.depth ≤ 8 ∧ ∃ ks, k = .tup ks
section
variable {X : Cx} {a b c e : Expr} {C C1 C2 C3 C' : Ct} {d d1 d2 d3 dk : D} {ds : List D} {pos p p2 p3 : Pos} {x : Str} {P : Out → Prop} {rest : List Stmt} {kvs : List (NestedKey × D)} {k : NestedKey}
theorem un8 {n : Nat} (hr : RoomG n X.A) : (nestedKind X.prog X.w).room X.A.in1 := by
  have := hr.un
  show X.A.in1.units + 8 < cLine
  have : X.A.in1.units = X.A.units + 1 ∨ X.A.in1.units ≤ X.A.units + 1 := by first | exact .inl rfl | exact .inr (by omega)
  omega
theorem KD.ref {F : Hp} {v : V} (h : KD k dk) (r : R F v dk) : ∃ b, v = .ref b ∧ R F (.ref b) k.data := by
  obtain ⟨rfl, _, ks, rfl⟩ := h
  have r' := r
  cases r with
  | tup h1 h2 => exact ⟨_, rfl, r'⟩

/-! ### the steps -/
def rNin (P : Program) (w : World) (neg : Bool) : R2 := fun y x H Q => ∃ (a : Addr) (xs : NEs) (b : Addr) (k : NestedKey) (F : Hp) (kvs : List (NestedKey × D)), x = .ref a ∧ y = .ref b ∧ Ext F H ∧ H a = some (NkO P w a xs) ∧ RN F xs kvs ∧ R F (.ref b) k.data ∧ k.depth ≤ 8 ∧
  Q (.bl (if neg then !(atKey xs k).isSome else (atKey xs k).isSome)) H
theorem op_nin {n : Nat} (hrm : RoomG n X.A) : OpR X (compareOp .In) (rNin X.prog X.w false) := by
  intro pins s σ H x y v u Q I rx ry h
  obtain ⟨a, xs, b, k, F, kvs, rfl, rfl, e, g, r, rk, dk, q⟩ := h
  obtain rfl : u = Value.ref a := ry
  obtain rfl : v = Value.ref b := rx
  obtain ⟨z1, z2, z3⟩ := nk_full I.hok e g r
  exact wpAny_in_heap (un8 hrm) ⟨is_of (v := V.ref b) (u := Value.ref b) I.hok (rk.mono e) (show RelV (V.ref b) (Value.ref b) from rfl), dk⟩ z1 z3 ⟨.bl (atKey xs k).isSome, H, I.tok _, rfl, q⟩
theorem op_nnotin {n : Nat} (hrm : RoomG n X.A) : OpR X (compareOp .NotIn) (rNin X.prog X.w true) := by
  intro pins s σ H x y v u Q I rx ry h
  obtain ⟨a, xs, b, k, F, kvs, rfl, rfl, e, g, r, rk, dk, q⟩ := h
  obtain rfl : u = Value.ref a := ry
  obtain rfl : v = Value.ref b := rx
  obtain ⟨z1, z2, z3⟩ := nk_full I.hok e g r
  refine notIn_keyed (un8 hrm) ⟨is_of (v := V.ref b) (u := Value.ref b) I.hok (rk.mono e) (show RelV (V.ref b) (Value.ref b) from rfl), dk⟩ z1 ⟨xs, z3, rfl⟩ ?_
  rw [valueAt_pairsH, Option.isSome_map]
  exact ⟨.bl (!(atKey xs k).isSome), H, I.tok _, rfl, q⟩
/-- k in x, k not in x -/
theorem gt_nin {n : Nat} (i : Nat) (hrm : RoomG n X.A) (hC : C[i]? = some (.ob (nkS X.prog X.w kvs))) (hb : GE X b C dk C) (hk : KD k dk) (hN : X.N[i]? = some x := by rfl) (hv : Vis X.env.scope x := by first | exact Or.inl rfl | exact Or.inr (Or.inl rfl) | exact Or.inr (Or.inr rfl)) (hd : (x == ("__debug__" : Str)) = false := by decide) (hcd : (x == ("__classdict__" : Str)) = false := by decide) :
    GT X (.Compare b [.In] [.Name x p] pos) C ((dget kvs k).isSome) C := fun F H σ S Q q => by
  refine wpT_of (pt_cmpR (op_nin hrm) pe_wp (pe_var hN hv hd hcd) rfl) ?_
  refine hb F H σ S _ fun y F2 H2 s2 S2 r2 => ?_
  obtain ⟨bb, rfl, r3⟩ := hk.ref r2
  obtain ⟨l, u, e0, g1, ⟨xs, rfl, rk⟩, g3⟩ := S2.sl i _ hC
  refine ⟨_, e0, l, xs, bb, k, F2, kvs, rfl, rfl, S2.ex, g1, rk, r3, hk.2.1, _, rfl, ?_⟩
  show Q ((atKey xs k).isSome) H2
  rw [rk.some]
  exact q F2 H2 s2 S2
theorem gt_nnotin {n : Nat} (i : Nat) (hrm : RoomG n X.A) (hC : C[i]? = some (.ob (nkS X.prog X.w kvs))) (hb : GE X b C dk C) (hk : KD k dk) (hN : X.N[i]? = some x := by rfl) (hv : Vis X.env.scope x := by first | exact Or.inl rfl | exact Or.inr (Or.inl rfl) | exact Or.inr (Or.inr rfl)) (hd : (x == ("__debug__" : Str)) = false := by decide) (hcd : (x == ("__classdict__" : Str)) = false := by decide) :
    GT X (.Compare b [.NotIn] [.Name x p] pos) C (!(dget kvs k).isSome) C := fun F H σ S Q q => by
  refine wpT_of (pt_cmpR (op_nnotin hrm) pe_wp (pe_var hN hv hd hcd) rfl) ?_
  refine hb F H σ S _ fun y F2 H2 s2 S2 r2 => ?_
  obtain ⟨bb, rfl, r3⟩ := hk.ref r2
  obtain ⟨l, u, e0, g1, ⟨xs, rfl, rk⟩, g3⟩ := S2.sl i _ hC
  refine ⟨_, e0, l, xs, bb, k, F2, kvs, rfl, rfl, S2.ex, g1, rk, r3, hk.2.1, _, rfl, ?_⟩
  show Q (!(atKey xs k).isSome) H2
  rw [rk.some]
  exact q F2 H2 s2 S2
/-- {} -/
def tNNew (P : Program) (w : World) : TE := fun _ H Q => ∀ p, H p = none → Q (.ref p) (upd H p (NkO P w p []))
theorem dictOfH_empty {P : Program} {w : World} (h : Heap) : (h.push { cls := .type "dict", data := .dict #[] }).DictOfH (nestedKind P w) h.objs.size [] := Heap.DictOfH.new h
theorem Inv.nnew {pins : List (Addr × Obj)} {σ : L2.St} {H : Hp} {s : Shared} (I : Inv X pins σ H s) : Inv X pins σ (upd H s.heap.objs.size (NkO X.prog X.w s.heap.objs.size [])) { s with heap := s.heap.push { cls := .type "dict", data := .dict #[] } } :=
  I.laid (a := s.heap.objs.size) (o := NkO X.prog X.w s.heap.objs.size []) (t' := s.toks) (fun _ _ q => Heap.get?_push_of_some _ q) (Nat.le_refl _) (nk_new (beq_eq_false_iff_ne.mpr (Ne.symm (Nat.ne_of_lt I.big))) (Nat.zero_le _) (dictOfH_empty s.heap))
theorem pe_nnew : PE X (.Dict [] [] pos) (tNNew X.prog X.w) := ⟨fun pins s σ H Q I h =>
  wpAny_Dict_empty ⟨.ref s.heap.objs.size, _, Inv.nnew I, rfl, h _ (I.hok.fresh (Nat.le_refl _))⟩⟩
theorem gs_nnew (i : Nat) (hN : X.N.Nodup) (hr : GS X rest (C.set i (.ob (nkS X.prog X.w []))) P) (hl : i < C.length := by exact Nat.le_of_ble_eq_true rfl) (hi : X.N[i]? = some x := by rfl) (hx : Loc X.env.scope x := by first | exact .inl rfl | exact .inr rfl)
    (hs : swapsWith (.Dict [] [] p3) (some (.Name x p2)) pos.line X.env = pure false := by rfl) (hf : X.fn x = true ∨ X.env.scope.names.lookup x = some .local := by first | exact .inl rfl | exact .inr rfl) : GS X (.Assign [.Name x p2] (.Dict [] [] p3) pos :: rest) C P := fun F H σ D' S q => by
  refine wpSs_of (pss_cons (ps_set hN hi hx pe_nnew hs hf) pss_wp) ?_
  intro q0 hq
  have x1 : XS F H F (upd H q0 (NkO X.prog X.w q0 [])) := XS.fresh S.ex hq nk_nt
  have S1 := S.xs x1
  have no : ¬ Own σ C q0 := own_new S hq
  have st : Stp F H (Own σ C) F (upd H q0 (NkO X.prog X.w q0 [])) (Own (σ.set i (some (.ref q0))) (C.set i (.ob (nkS X.prog X.w [])))) := (Stp.refl.trans x1.stp).ol hq
  exact hr F _ _ D' (S1.asg hl ⟨q0, _, rfl, upd_same, ⟨[], rfl, .nil⟩, S.ex.free hq⟩ fun _ a e => by cases e; exact own_any no) fun o ho => (q o ho).step st
/-- {k: v} -/
def tNDisp (P : Program) (w : World) (tk tv : TE) : TE := fun σ H Q => ∀ p, H p = none → tk σ (upd H p (NkO P w p [])) fun y H1 => tv σ H1 fun v H2 => ∃ (b : Addr) (k : NestedKey) (F : Hp), y = .ref b ∧ Ext F H2 ∧ H2 p = some (NkO P w p []) ∧ R F (.ref b) k.data ∧ k.depth ≤ 8 ∧
  ∀ u, RelV v u → Q (.ref p) (upd H2 p (NkO P w p [(k, b, u)]))
theorem pe_ndisp {n : Nat} {ke ve : Expr} {tk tv : TE} (hrm : RoomG n X.A) (hk : PE X ke tk) (hv : PE X ve tv) : PE X (.Dict [some ke] [ve] pos) (tNDisp X.prog X.w tk tv) := by
  refine ⟨fun pins s σ H Q I h => ?_⟩
  have hn := I.hok.fresh (Nat.le_refl s.heap.objs.size)
  have I1 := Inv.nnew I
  have hp := pairTrees_length [some ke] [ve] X.env pos rfl rfl
  rw [arm_eval_Dict, zip_pairTrees [some ke] [ve] X.env pos rfl rfl, dictDisplay_pairs _ (fun z => by rw [z] at hp; cases hp) (by rw [hp]; exact Nat.le_of_ble_eq_true rfl)]
  refine wpAny_bind (wpAny_standAt (wpAny_bind (wpAny_subDictH (knd := nestedKind X.prog X.w) (show X.A.units + 8 < cLine by have := hrm.un; omega) (by rw [hp]; exact Nat.le_of_ble_eq_true rfl) ?_)))
  refine pairTrees_cons_walk (thn (hk.run pins _ σ _ _ I1 (h _ hn)) fun kv s1 ⟨y, H1, I1, ry, q1⟩ => thn (hv.run pins s1 σ H1 _ I1 q1) fun vv s2 ⟨v, H2, I2, rv, b, k, F, ey, e, g, rk, dk, q2⟩ => pairTrees_nil_walk ?_)
  subst ey
  obtain rfl : kv = Value.ref b := ry
  obtain ⟨z1, z2, z3⟩ := nk_full I2.hok e g (.nil : RN F [] [])
  refine ⟨[(k, b, vv)], ⟨rfl, rfl, ⟨is_of (v := V.ref b) (u := Value.ref b) I2.hok (rk.mono e) (show RelV (V.ref b) (Value.ref b) from rfl), dk⟩, trivial⟩, z3, fun h' tk' dd' hs => wpAny_pure ⟨.ref s.heap.objs.size, _, ?_, rfl, q2 vv rv⟩⟩
  have he : ∃ q, h'.get? s.heap.objs.size = some q := let ⟨q, _, _, hq, _⟩ := dd'; ⟨q, hq⟩
  refine d_write I2 (by rw [g]; exact True.intro) hs he (nk_new z1 ?_ dd')
  rw [sizeLine_eq]; exact Nat.le_of_ble_eq_true rfl
theorem gs_ndisp {n : Nat} {ke ve : Expr} (i : Nat) (hrm : RoomG n X.A) (hN : X.N.Nodup) (hke : GE X ke C dk C) (hve : GE X ve C d C) (hk : KD k dk) (hr : GS X rest (C.set i (.ob (nkS X.prog X.w [(k, d)]))) P) (hl : i < C.length := by exact Nat.le_of_ble_eq_true rfl) (hi : X.N[i]? = some x := by rfl) (hx : Loc X.env.scope x := by first | exact .inl rfl | exact .inr rfl)
    (hs : swapsWith (.Dict [some ke] [ve] p3) (some (.Name x p2)) pos.line X.env = pure false := by rfl) (hf : X.fn x = true ∨ X.env.scope.names.lookup x = some .local := by first | exact .inl rfl | exact .inr rfl) : GS X (.Assign [.Name x p2] (.Dict [some ke] [ve] p3) pos :: rest) C P := fun F H σ D' S q => by
  refine wpSs_of (pss_cons (ps_set hN hi hx (pe_ndisp hrm pe_wp pe_wp) hs hf) pss_wp) ?_
  intro q0 hq
  have x1 : XS F H F (upd H q0 (NkO X.prog X.w q0 [])) := XS.fresh S.ex hq nk_nt
  have S1 := S.xs x1
  have no : ¬ Own σ C q0 := own_new S hq
  refine hke F _ σ S1 _ fun y F1 H1 s1 S2 r1 => hve F1 H1 σ S2 _ fun v F2 H2 s2 S3 r2 => ?_
  obtain ⟨b, rfl, r3⟩ := hk.ref r1
  have st := s1.trans s2
  obtain ⟨g1, g2, g3⟩ := st.k q0 _ upd_same no
  have g1 := g1 nk_nt
  refine ⟨b, k, F2, rfl, S3.ex, g1, r3.mono s2.e, hk.2.1, fun u ru => ?_⟩
  have f0 : F2 q0 = none := g3 (S.ex.free hq)
  have sA : Stp F H (Own σ C) F2 H2 (Own σ C) := x1.stp.trans st
  have sB : Stp F H (Own σ C) F2 (upd H2 q0 (NkO X.prog X.w q0 [(k, b, u)])) (Own (σ.set i (some (.ref q0))) (C.set i (.ob (nkS X.prog X.w [(k, d)])))) := by
    refine Stp.ol (C1 := C) ⟨sA.e, fun a w h n => ?_, fun a h => ?_, fun t => (sA.tb t).upd nk_nt⟩ hq
    · obtain ⟨k1, k2, k3⟩ := sA.k a w h n
      have ne : a ≠ q0 := fun z => by rw [z, hq] at h; cases h
      exact ⟨fun hu => by rw [upd_ne ne]; exact k1 hu, k2, k3⟩
    · by_cases ne : a = q0
      · subst ne; rw [upd_same] at h; cases h
      · rw [upd_ne ne] at h; exact sA.t a h
  have S4 : Sat F2 H2 (σ.set i (some (.ref q0))) (C.set i (.ob (nkS X.prog X.w []))) := S3.asg hl ⟨q0, _, rfl, g1, ⟨[], rfl, .nil⟩, f0⟩ fun _ a e => by cases e; exact own_any g2
  have hC1 : (C.set i (.ob (nkS X.prog X.w [])))[i]? = some (.ob (nkS X.prog X.w [])) := List.getElem?_set_self hl
  have hσ : (σ.set i (some (V.ref q0)))[i]? = some (some (V.ref q0)) := List.getElem?_set_self (by rw [← S.len]; exact hl)
  have ok : SlOk F2 (upd H2 q0 (NkO X.prog X.w q0 [(k, b, u)])) (σ.set i (some (V.ref q0)))[i]? (.ob (nkS X.prog X.w [(k, d)])) := ⟨q0, _, hσ, upd_same, ⟨_, rfl, .cons hk.2.1 (r3.mono s2.e) ru r2 .nil⟩, f0⟩
  have S5 := S4.wr hC1 rfl hσ ok rfl
  rw [List.set_set] at S5
  exact hr F2 _ _ D' S5 fun o ho => (q o ho).step sB
/-- x[k] = e -/
def sNPut (P : Program) (w : World) (td ty tv : TE) : TS := fun D σ H => tv σ H fun v H1 => td σ H1 fun x H2 => ty σ H2 fun y H3 => ∃ (a : Addr) (xs : NEs) (b : Addr) (k : NestedKey) (F : Hp) (kvs : List (NestedKey × G.D)), x = .ref a ∧ y = .ref b ∧ Ext F H3 ∧ H3 a = some (NkO P w a xs) ∧ RN F xs kvs ∧ R F (.ref b) k.data ∧ k.depth ≤ 8 ∧ xs.length < sizeLine ∧
  ∀ r, RelV v r → D.nx σ (upd H3 a (NkO P w a (storedH xs k b r)))
theorem ps_nput {n : Nat} {o i value : Expr} {td ty tv : TE} {pos' : Pos} (hrm : RoomG n X.A) (ho : PE X o td) (hi : PE X i ty) (hv : PE X value tv) (hs : swapsWith value (some (.Subscript o i pos')) pos.line X.env = pure false) :
    PS X (.Assign [.Subscript o i pos'] value pos) (sNPut X.prog X.w td ty tv) := by
  refine ⟨fun pins s σ H D I h => ?_⟩
  refine wpAny_Assign_Subscript (thn (hv.run pins s σ H _ I h) fun r s1 ⟨v, H1, I1, rv, q1⟩ => thn (ho.run pins s1 σ H1 _ I1 q1) fun u s2 ⟨x, H2, I2, rx, q2⟩ => thn (hi.run pins s2 σ H2 _ I2 q2) fun iv s3 ⟨y, H3, I3, ry, a, xs, b, k, F, kvs, ex, ey, e, g, rk, rb, dk, lz, q3⟩ => ?_) hs
  subst ex ey
  obtain rfl : u = Value.ref a := rx
  obtain rfl : iv = Value.ref b := ry
  obtain ⟨z1, z2, z3⟩ := nk_full I3.hok e g rk
  refine wpAny_setItem_heap (hsz := z2) (un8 hrm) ⟨is_of (v := V.ref b) (u := Value.ref b) I3.hok (rb.mono e) (show RelV (V.ref b) (Value.ref b) from rfl), dk⟩ z3 fun h' dd' hs' => ⟨σ, _, ?_, q3 r rv⟩
  have he : ∃ q, h'.get? a = some q := let ⟨q, _, _, hq, _⟩ := dd'; ⟨q, hq⟩
  refine d_write I3 (by rw [g]; exact True.intro) hs' he (nk_new z1 ?_ dd')
  have := storedH_len xs k b r
  omega
theorem gs_nput {n : Nat} (i : Nat) (hrm : RoomG n X.A) (hz : szOk (kvs.length + 1) = some ()) (h : GE X e C d C1) (hC1 : C1[i]? = some (.ob (nkS X.prog X.w kvs))) (hb : GE X b C1 dk C1) (hk : KD k dk) (hr : GS X rest (C1.set i (.ob (nkS X.prog X.w (dput kvs k d)))) P)
    (hN : X.N[i]? = some x := by rfl) (hv : Vis X.env.scope x := by first | exact Or.inl rfl | exact Or.inr (Or.inl rfl) | exact Or.inr (Or.inr rfl)) (hd : (x == ("__debug__" : Str)) = false := by decide) (hcd : (x == ("__classdict__" : Str)) = false := by decide)
    (hs : swapsWith e (some (.Subscript (.Name x p2) b p3)) pos.line X.env = pure false := by rfl) : GS X (.Assign [.Subscript (.Name x p2) b p3] e pos :: rest) C P := fun F H σ D' S q => by
  refine wpSs_of (pss_cons (ps_nput hrm (pe_var hN hv hd hcd) pe_wp pe_wp hs) pss_wp) ?_
  refine h F H σ S _ fun v F1 H1 s1 S1 r1 => ?_
  obtain ⟨l, u, e0, _, _, _⟩ := S1.sl i _ hC1
  refine ⟨_, e0, ?_⟩
  refine hb F1 H1 σ S1 _ fun y F2 H2 s2 S2 r2 => ?_
  obtain ⟨bb, rfl, r3⟩ := hk.ref r2
  obtain ⟨l', u, e1, g1, ⟨xs, rfl, rk⟩, g3⟩ := S2.sl i _ hC1
  rw [e0] at e1; cases e1
  have hz' := szOk_le hz
  refine ⟨l, xs, bb, k, F2, kvs, rfl, rfl, S2.ex, g1, rk, r3, hk.2.1, by rw [rk.length]; omega, fun r rr => ?_⟩
  have ok : SlOk F2 (upd H2 l (NkO X.prog X.w l (storedH xs k bb r))) σ[i]? (.ob (nkS X.prog X.w (dput kvs k d))) := ⟨l, _, e0, upd_same, ⟨_, rfl, rk.put hk.2.1 r3 rr (r1.mono s2.e)⟩, g3⟩
  exact hr F2 _ σ D' (S2.wr hC1 rfl e0 ok rfl) fun o ho => (q o ho).step ((s1.trans s2).wr hC1 rfl e0 nk_nt)
/-- list(x) -/
def rNList (P : Program) (w : World) : List V → Hp → VK → Prop := fun vs H Q => ∃ (a : Addr) (xs : NEs) (F : Hp) (kvs : List (NestedKey × D)), vs = [V.ref a] ∧ Ext F H ∧ H a = some (NkO P w a xs) ∧ RN F xs kvs ∧ ∀ p, H p = none → Q (.ref p) (upd H p (.lst (xs.map fun x => V.ref x.2.1)))
theorem call_nlist (hc : X.calm = true) : CallR X (.type "list") (rNList X.prog X.w) := by
  intro pins s σ H vs us Q I r h
  obtain ⟨d, ks, F, kvs, rfl, eF, hd, rk, q⟩ := h
  obtain ⟨u, rfl, rx⟩ := r.one
  cases rx
  obtain ⟨hs, z, o, es, ep, ho, hx, hdt, he, _, hn⟩ := nk_full I.hok eF hd rk
  have l1 : es.size = ks.length := size_of_entries he
  refine PySem.W.kdl_call (kdl_raw hs hx hdt) (I.ok.hd hc) ho (by omega) fun h' tk acc' c' kp e it => ?_
  have ea : acc'.toList = ks.map fun x => Value.ref x.2.1 := by
    have hl : acc'.toList.length = ks.length := by rw [Array.length_toList, it.1]; exact l1
    apply List.ext_getElem?
    intro j
    rw [List.getElem?_map]
    cases hj : acc'.toList[j]? with
    | none =>
      have h1 := List.getElem?_eq_none_iff.mp hj
      rw [List.getElem?_eq_none (by omega)]
      all_goals rfl
    | some v =>
      obtain ⟨en, hen, hv⟩ := it.2 j v (by rw [← Array.getElem?_toList]; exact hj)
      have qe := entry_at he j
      rw [hen] at qe
      cases hb : ks[j]? with
      | none =>
        rw [hb] at qe
        exact nomatch (show some en = none from qe)
      | some b =>
        rw [hb] at qe
        have e2 : en = entryOfKey (nestedKind X.prog X.w) b := Option.some.inj qe
        rw [hv, e2]
        all_goals rfl
  have eb : acc'.toList = (ks.map fun x => x.2.1).map Value.ref := by rw [ea, List.map_map]; all_goals rfl
  have rv : Vals (ks.map fun x => V.ref x.2.1) acc'.toList := by
    have : (ks.map fun x => V.ref x.2.1) = (ks.map fun x => x.2.1).map V.ref := by rw [List.map_map]; all_goals rfl
    rw [eb, this]; exact vals_refs _
  have hz : (ks.map fun x => V.ref x.2.1).length ≤ sizeLine := by rw [List.length_map]; exact z
  refine ⟨.ref s.heap.objs.size, _, I.laid (t' := tk) (o := .lst (ks.map fun x => V.ref x.2.1)) kp (Nat.le_refl _) ?_, rfl, q _ (I.hok.fresh (Nat.le_refl _))⟩
  exact ⟨hz, acc'.toList, c', rv, by rw [Array.toArray_toList]; exact e⟩
theorem RN.ra {F : Hp} : ∀ {xs kvs}, RN F xs kvs → RA F (xs.map fun x => V.ref x.2.1) (kvs.map fun kv => kv.1.data)
  | _, _, .nil => .nil
  | _, _, .cons h1 h2 h3 h4 t => .cons h2 (RN.ra t)
theorem g_nlist (i : Nat) (hc : X.calm = true) (hC : C[i]? = some (.ob (nkS X.prog X.w kvs))) (hm : X.mg "list" = none) (hg : Gl X "list" := by rfl) (he : starEach [.Name x p2] X.env = (false, eval (.Name x p2) X.env) :: starEach [] X.env := by rfl) (hpl : (backTo pos (starEach [] X.env)).any (·.1) = false := by rfl)
    (hN : X.N[i]? = some x := by rfl) (hv : Vis X.env.scope x := by first | exact Or.inl rfl | exact Or.inr (Or.inl rfl) | exact Or.inr (Or.inr rfl)) (hd : (x == ("__debug__" : Str)) = false := by decide) (hcd : (x == ("__classdict__" : Str)) = false := by decide) :
    GL X (.Call (.Name "list" p) [.Name x p2] [] pos) C (kvs.map fun kv => kv.1.data) C := fun F H σ S Q q => by
  refine wpE_of (pe_callTy (r := rNList X.prog X.w) (call_nlist hc) hg hm (by decide +kernel) (pa_cons (pe_var hN hv hd hcd) pa_nil he) (by decide) (by decide) he hpl) ?_
  obtain ⟨l, u, e0, g1, ⟨xs, rfl, rk⟩, g3⟩ := S.sl i _ hC
  refine ⟨_, e0, l, xs, F, kvs, rfl, S.ex, g1, rk, fun p hn => ?_⟩
  exact GL.of q .refl S hn rk.ra
end
end G
/-! G22: sorted(set(xs)), len(set(xs)) of tuples of ints; xs a list or a tuple. -/
namespace L2
open PySem PySem.Spec PyProof.Rows
section
variable {P : Program} {w : World} {A : Around} {E : Value → Shared → Prop} {s : Shared}
/-- a new set -/
abbrev soN (w : World) : Obj := { cls := .type "set", dict := none, data := .set #[] 0 (.fresh 0 0 (!w.params.followText "set-order")) }
/-- the set that an iterable of the types list, tuple makes -/
theorem set_of_tuple {l : Addr} {items : Array Value} (ks : List (Addr × List Int)) {Q : Value → Shared → Prop} (hh : A.handled = none) (hl : s.heap.IsTuple l items) (hit : items.toList = ks.map fun p => Value.ref p.1)
    (hk : ∀ p ∈ ks, IsT P w s.heap p.2 p.1) (hfew : ks.length < 64) (hu : A.units + 3 < cLine)
    (h : ∀ (h' : Heap) (tk : Nat) L es ep t, SetTR P w h' s.heap.objs.size L es ep t → Got ks ks.length L → (∀ b o, s.heap.get? b = some o → h'.get? b = some o) → Q (.ref s.heap.objs.size) { s with heap := h', toks := tk }) :
    wpAny (model P w) A (call (.type "set") [.ref l]) Q E s := by
  have hisz : items.size = ks.length := by
    have q := congrArg List.length hit
    rwa [Array.length_toList, List.length_map] at q
  obtain ⟨c, tl, hmro⟩ := F.called_set.mro
  have hmade := F.called_set.made
  have hsub := F.called_set.sub
  refine wpAny_call (codeAny_of_tree ?_)
  show wpAny _ _ (callAny (.type "set") _) _ _ _
  refine wpAny_pure ⟨Code.quiet_builtin _ (by decide +kernel), codeAny_builtin F.entry_type_call ?_⟩
  rw [Around.under_plain (weight_type_call_type "set" [.ref l] []) rfl]
  have h1 := F.called_set.notType
  have h2 := F.called_set.canCreate
  have hct := F.typeCall_set_1 (.ref l)
  repeat (any_goals (first | assumption | wp_step))
  refine codeAny_mono (code_set_led1 (.ref l) (E := E) (Q₁ := fun obj s₁ => obj = .ref s.heap.objs.size ∧ s₁ = { s with heap := s.heap.push (soN w) }) ⟨rfl, rfl⟩) fun r s₁ hr => ?_
  cases r with
  | error e => exact hr
  | ok fl =>
    cases fl with
    | ret obj =>
      obtain ⟨rfl, rfl⟩ := hr
      have hS : (s.heap.push (soN w)).get? s.heap.objs.size = some (soN w) := Heap.get?_push_size _ rfl
      have hT : Shared.TypeIs { s with heap := s.heap.push (soN w) } (.ref s.heap.objs.size) "set" := ⟨_, hS, rfl⟩
      have hli := F.called_set.init.lookup
      have hbi := F.called_set.init.bind (.ref s.heap.objs.size)
      repeat (any_goals (first | assumption | wp_step))
      refine codeAny_mono (codeAny_call_builtin (R := wants (fun r s₂ => r = .none ∧ ∃ h' tk L es ep t, s₂ = { s with heap := h', toks := tk } ∧ SetTR P w h' s.heap.objs.size L es ep t ∧ Got ks ks.length L ∧
          (∀ b o, s.heap.get? b = some o → h'.get? b = some o)) E) F.called_set.init.plain F.entry_set_init (check_set_init_1 hT ?_)) fun r₂ s₂ hr₂ => ?_
      · obtain ⟨ol, hol, hcl, nl, hdl⟩ := hl
        obtain ⟨ocls, odict, odata, oslots⟩ := ol
        simp only at hcl hdl
        subst hcl; subst hdl
        have hol' : (s.heap.push (soN w)).get? l = some { cls := .type "tuple", dict := odict, data := .seq items nl, slots := oslots } := Heap.get?_push_of_some _ hol
        have hsls := F.sub_tuple_set
        have hslf := F.sub_tuple_frozenset
        have hne : (Value.type "tuple" == Value.type "dict") = false := by decide
        have hl1 : (s.heap.push (soN w)).IsTuple l items := ⟨_, hol', rfl, nl, rfl⟩
        unfold Builtin.«set.__init__» noKeywords Builtin.Frozenset.updateFrom
        generalize hPI : pyIter = PI
        wp_walk
        subst hPI
        refine wpAny_pyIter_tuple hl1 ?_
        refine wpAny_bind (wpAny_runValue ?_)
        have hlS : l < s.heap.objs.size := Heap.lt_size hol
        have hh3 : A.in1.in1.in1.handled = none := by simp [hh]
        have hneI : l ≠ (s.heap.push (soN w)).objs.size := by
          rw [Heap.size_push]; exact Nat.ne_of_lt (Nat.lt_succ_of_lt hlS)
        have hSf : s.heap.objs.size ∉ [(s.heap.push (soN w)).objs.size, l] := by
          rw [Heap.size_push]; simp only [List.mem_cons, List.mem_singleton, List.not_mem_nil, or_false, not_or]
          exact ⟨Nat.ne_of_lt (Nat.lt_succ_self _), Nat.ne_of_gt hlS⟩
        have hval : ∀ (i : Nat) (v : Value), items[i]? = some v → ∃ p, ks[i]? = some p ∧ v = .ref p.1 := fun i v hv => by
          have q : items.toList[i]? = some v := by rw [Array.getElem?_toList]; exact hv
          rw [hit, List.getElem?_map] at q
          cases hq : ks[i]? with
          | none => rw [hq] at q; cases q
          | some p =>
            rw [hq] at q
            exact ⟨p, rfl, (Option.some.inj q).symm⟩
        have none_of : ∀ b, s.heap.objs.size ≤ b → s.heap.get? b = none := fun b hb => by
          cases q : s.heap.get? b with
          | none => rfl
          | some o => exact absurd (Nat.lt_of_lt_of_le (Heap.lt_size q) hb) (Nat.lt_irrefl _)
        refine set_update_tups ((Walks.tuple hh3 _ l hneI items).toS) s.heap.objs.size hSf ks hisz hfew hval s.heap hk (none_of _ (Nat.le_refl _)) (fun b hb => none_of b (by
            rw [List.mem_singleton.mp hb, Heap.size_push]
            exact Nat.le_succ _)) hu (items.size - 0) 0 _ (by omega) (Nat.zero_le _)
          ⟨⟨_, Heap.get?_push_size _ rfl, rfl, rfl⟩, (hl1.push _)⟩ (fun b o e => Heap.get?_push_of_some _ (Heap.get?_push_of_some _ e)) ?hS0 ?hR
        case hS0 =>
          exact ⟨[], #[], 0, _, setTR_fresh (Heap.get?_push_of_some _ hS), Got.zero ks⟩
        case hR =>
          intro s' L es ep t hm hS' g' hkp
          obtain ⟨h', g2, d', tk', os'⟩ := s'
          have eg : g2 = s.gens := hm.gens
          have ed : d' = s.drawn := hm.drawn
          have eo : os' = s.os := hm.os
          subst eg; subst ed; subst eo
          show wpAny _ _ _ _ _ _
          refine wpAny_pure ?_
          show wpAny _ _ (ret Value.none) _ _ _
          rw [hisz] at g'
          exact wpAny_pure ⟨rfl, h', tk', L, es, ep, t, rfl, hS', g', hkp⟩
      · cases r₂ with
        | error e => exact hr₂
        | ok fl₂ =>
          cases fl₂ with
          | ret r =>
            obtain ⟨rfl, h', tk, L, es, ep, t, rfl, hS', g', hk'⟩ := hr₂
            repeat (any_goals (first | assumption | wp_step))
            exact h _ _ _ _ _ _ hS' g' hk'
          | _ => exact hr₂.elim
    | _ => exact hr.elim
end
end L2
/-! G22: sorted(set(xs)), len(set(xs)) of tuples of ints; xs a list or a tuple. -/
namespace L2
open PySem PySem.Spec PyProof.Rows
section
variable {P : Program} {w : World} {A : Around} {E : Value → Shared → Prop} {s : Shared}
/-- sorted of a set of at most one tuple -/
theorem sorted_setT1 {a : Addr} {L : List (Addr × List Int)} {es : Array (Int × Value)} {ep : Nat} {t : SetTable} {Q : Value → Shared → Prop} (R : SetTR P w s.heap a L es ep t) (hh : A.handled = none) (h1 : L.length ≤ 1)
    (hQ : ∀ s' p (out : Array Value) (c : Nat), (∀ b o, s.heap.get? b = some o → s'.heap.get? b = some o) → s'.gens = s.gens → s'.os = s.os → s.heap.objs.size ≤ p →
      s'.heap.get? p = some (seqObj "list" out c) → out.toList = L.map (fun q => Value.ref q.1) → Q (.ref p) s') :
    wpAny (model P w) A (call (.builtin "sorted") [.ref a]) Q E s := by
  obtain ⟨o, ho, hex, hd⟩ := R.ob
  have hsz := R.size
  refine Calls.call_function_entry kind_sorted plain_sorted entry_sorted (args_sorted1 _) ?_
  unfold Builtin.«sorted»
  refine wpAny_bind (m := checkCount "sorted" 1 1 _) (wpAny_pure ?_)
  refine wpAny_bind (collect_set (A := A.in1) hh ⟨o, ho, hex.1, hd⟩ R.fits (by unfold scanBound; omega) R.tab.ris R.led fun s1 vs k1 hz g1 o1 pm => ?_)
  have hes : es.toList.map (·.2) = L.map fun q => Value.ref q.1 := by
    rw [R.rows]
    unfold rowsOf
    rw [List.map_map] <;> rfl
  rw [hes] at pm
  have hvl : vs.length ≤ 1 := by rw [pm.length_eq, List.length_map]; exact h1
  have evs : vs = L.map fun q => Value.ref q.1 := by
    match vs, L, hvl, h1, pm with
    | [], [], _, _, _ => rfl
    | [v], [q], _, _, pm => exact List.perm_singleton.mp pm
    | [], [q], _, _, pm => exact absurd pm.length_eq (by simp)
    | [v], [], _, _, pm => exact absurd pm.length_eq (by simp)
  refine wpAny_bind (wpAny_newList ?_ (by rw [sizeLine_eq]; omega))
  have hoL : (s1.heap.push (seqObj "list" vs.toArray 0)).get? s1.heap.objs.size = some (seqObj "list" vs.toArray 0) := Heap.get?_push_size _ rfl
  refine wpAny_bind (wpAny_holding (wpAny_call_entry slot_list_sort ⟨_, hoL, rfl⟩ entry_list_sort (SK.plain_sort (s := { s1 with heap := s1.heap.push (seqObj "list" vs.toArray 0) }) (r := fun _ => 0) hoL (by omega) (fun h2 Q hQ => absurd h2 (by omega)) fun ps out a1 a2 a3 => ⟨_, rfl, ?_⟩) (args_list_sort _)))
  obtain ⟨pm2, _⟩ := TS.out_rank (r := fun _ => 0) a1 a2 a3
  have eo : out.toList = vs := by
    match vs, hvl, pm2 with
    | [], _, pm2 => exact List.Perm.eq_nil pm2
    | [v], _, pm2 => exact List.perm_singleton.mp pm2
  obtain ⟨c, hc⟩ := sortedHeap_at (vs := vs) (out := out) hoL
  refine wpAny_pure ⟨_, rfl, hQ _ s1.heap.objs.size out c (fun b u e => ?_) g1 o1 hz hc (eo.trans evs)⟩
  have q := k1 b u e
  have hlt := Heap.lt_size q
  show (sortedHeap (s1.heap.push (seqObj "list" vs.toArray 0)) s1.heap.objs.size vs out).get? b = some u
  rw [sortedHeap_old (Nat.ne_of_lt hlt) (by rw [size_push']; exact Nat.lt_succ_of_lt hlt)]
  exact Heap.get?_push_of_some _ q
end
end L2

namespace G
open PySem L2 PyProof.Rows
/-! ### the plain side -/
def ddup : List (List Int) → List (List Int)
  | [] => []
  | x :: xs => if x ∈ xs then ddup xs else x :: ddup xs
theorem mem_ddup {x : List Int} : ∀ {l : List (List Int)}, x ∈ ddup l ↔ x ∈ l
  | [] => Iff.rfl
  | y :: ys => by
    unfold ddup
    split
    · rename_i h
      rw [mem_ddup, List.mem_cons]
      exact ⟨.inr, fun z => z.elim (fun e => e ▸ h) id⟩
    · rw [List.mem_cons, List.mem_cons, mem_ddup]
theorem nodup_ddup : ∀ {l : List (List Int)}, (ddup l).Nodup
  | [] => List.nodup_nil
  | y :: ys => by
    unfold ddup
    split
    · exact nodup_ddup
    · rename_i h
      exact List.nodup_cons.mpr ⟨fun z => h (mem_ddup.mp z), nodup_ddup⟩
def bdB (ks : List (List Int)) : Int := 1 + ks.foldl (fun m k => k.foldl (fun m i => if m < i then i else m) m) 0
def setOk (ks : List (List Int)) : Bool := decide (ks.length < 64) && (decide ((ddup ks).length ≤ 1) || (decide (1 ≤ (ks.headD []).length) && ks.all fun x => decide (x.length = (ks.headD []).length) && x.all fun i => decide (0 ≤ i ∧ i < bdB ks)))
def leC (B : Int) (a b : List Int) : Bool := decide (TS.code B a ≤ TS.code B b)
def sset (ks : List (List Int)) : List (List Int) := isort (leC (bdB ks)) (ddup ks)
theorem code_inj {B : Int} (hB : 0 < B) : ∀ {a b : List Int}, a.length = b.length → TS.Bd B a → TS.Bd B b → TS.code B a = TS.code B b → a = b
  | [], [], _, _, _, _ => rfl
  | x :: xs, y :: ys, hl, ha, hb, e => by
    have hl' : xs.length = ys.length := by simpa using hl
    have ha' : TS.Bd B xs := fun m hm => ha m (by simp [hm])
    have hb' : TS.Bd B ys := fun m hm => hb m (by simp [hm])
    obtain ⟨a1, a2⟩ := TS.code_bd xs ha'
    obtain ⟨b1, b2⟩ := TS.code_bd ys hb'
    have e' : x * B ^ xs.length + TS.code B xs = y * B ^ ys.length + TS.code B ys := e
    rw [← hl'] at e' b2
    have p : 0 < B ^ xs.length := Int.pow_pos hB
    have exy : x = y := by
      rcases Int.lt_trichotomy x y with h | h | h
      · have : (x + 1) * B ^ xs.length ≤ y * B ^ xs.length := Int.mul_le_mul_of_nonneg_right (by omega) (Int.le_of_lt p)
        rw [Int.add_mul, Int.one_mul] at this
        omega
      · exact h
      · have : (y + 1) * B ^ xs.length ≤ x * B ^ xs.length := Int.mul_le_mul_of_nonneg_right (by omega) (Int.le_of_lt p)
        rw [Int.add_mul, Int.one_mul] at this
        omega
    subst exy
    rw [code_inj hB hl' ha' hb' (by omega)]
theorem sorted_uniq {le : List Int → List Int → Bool} : ∀ {xs ys : List (List Int)}, xs.Perm ys → xs.Pairwise (fun a b => le a b = true) → ys.Pairwise (fun a b => le a b = true) → (∀ a ∈ xs, ∀ b ∈ xs, le a b = true → le b a = true → a = b) → (∀ a ∈ xs, le a a = true) → xs = ys
  | [], ys, h, _, _, _, _ => (List.Perm.eq_nil h.symm).symm
  | x :: xs, [], h, _, _, _, _ => absurd h.length_eq (by simp)
  | x :: xs, y :: ys, h, hx, hy, ha, hr => by
    have hy0 : y ∈ x :: xs := h.mem_iff.mpr (by simp)
    have h1 : le x y = true := by
      rcases List.mem_cons.mp hy0 with e | m
      · rw [e]; exact hr x (by simp)
      · exact (List.pairwise_cons.mp hx).1 y m
    have h2 : le y x = true := by
      rcases List.mem_cons.mp (h.mem_iff.mp (List.mem_cons_self (a := x) (l := xs))) with e | m
      · rw [e]; exact hr y hy0
      · exact (List.pairwise_cons.mp hy).1 x m
    have e : x = y := ha x (by simp) y hy0 h1 h2
    subst e
    rw [sorted_uniq h.cons_inv (List.pairwise_cons.mp hx).2 (List.pairwise_cons.mp hy).2 (fun a m b n => ha a (by simp [m]) b (by simp [n])) fun a m => hr a (by simp [m])]
theorem isort_le {α : Type} {le : α → α → Bool} (t : PySem.W.TotalLe le) : ∀ {l : List α}, (isort le l).Pairwise (fun a b => le a b = true)
  | [] => .nil
  | x :: xs => insB_pair t (isort_le t)
theorem leC_total (B : Int) : PySem.W.TotalLe (leC B) := ⟨fun a b c h1 h2 => by simp only [leC, decide_eq_true_eq] at *; omega, fun a b => by simp only [leC, decide_eq_true_eq]; omega⟩
theorem bdB_pos (ks : List (List Int)) : 0 < bdB ks := by
  have mono : ∀ (k : List Int) (m : Int), m ≤ k.foldl (fun m i => if m < i then i else m) m := fun k => by
    induction k with
    | nil => exact fun m => Int.le_refl _
    | cons x xs ih =>
      intro m
      rw [List.foldl_cons]
      refine Int.le_trans ?_ (ih _)
      split <;> omega
  have : ∀ (ks : List (List Int)) (m : Int), m ≤ ks.foldl (fun m k => k.foldl (fun m i => if m < i then i else m) m) m := fun ks => by
    induction ks with
    | nil => exact fun m => Int.le_refl _
    | cons x xs ih => exact fun m => Int.le_trans (mono x m) (ih _)
  have := this ks 0
  unfold bdB
  omega
theorem sset_uniq {ks M : List (List Int)} (ho : setOk ks = true) (hn : M.Nodup) (hm : ∀ x, x ∈ M ↔ x ∈ ks) (hs : 1 < (ddup ks).length → M.Pairwise fun a b => TS.code (bdB ks) a ≤ TS.code (bdB ks) b) : M = sset ks := by
  have pm : M.Perm (ddup ks) := (List.perm_ext_iff_of_nodup hn nodup_ddup).mpr fun x => by rw [hm, mem_ddup]
  have pm2 : M.Perm (sset ks) := pm.trans isort_perm.symm
  unfold setOk at ho
  rw [Bool.and_eq_true, Bool.or_eq_true] at ho
  by_cases h1 : (ddup ks).length ≤ 1
  · have hM : M.length ≤ 1 := by rw [pm.length_eq]; exact h1
    match M, hM, pm2 with
    | [], _, pm2 => exact (List.Perm.eq_nil pm2.symm).symm
    | [x], _, pm2 => exact (List.perm_singleton.mp pm2.symm).symm
  · rcases ho.2 with h | h
    · exact absurd (of_decide_eq_true h) h1
    · rw [Bool.and_eq_true, List.all_eq_true] at h
      have hb : ∀ x ∈ ks, x.length = (ks.headD []).length ∧ TS.Bd (bdB ks) x := fun x hx => by
        have := h.2 x hx
        rw [Bool.and_eq_true, List.all_eq_true] at this
        exact ⟨of_decide_eq_true this.1, fun m hm => of_decide_eq_true (this.2 m hm)⟩
      refine sorted_uniq (le := leC (bdB ks)) pm2 ((hs (by omega)).imp fun h => decide_eq_true h) (isort_le (leC_total _)) (fun a ha b hb' h1 h2 => ?_) fun a _ => decide_eq_true (Int.le_refl _)
      have qa := hb a ((hm a).mp ha)
      have qb := hb b ((hm b).mp hb')
      refine code_inj (bdB_pos ks) (qa.1.trans qb.1.symm) qa.2 qb.2 ?_
      have := of_decide_eq_true h1
      have := of_decide_eq_true h2
      omega
end G

namespace G
open PySem L2 PyProof.Rows
/-! ### the walk -/
def rSetOfU (K : PySem.W.Frag) (P : Program) (w : World) : List V → Hp → VK → Prop := fun xs H Q => ∃ (l : Addr) (ks : List (Addr × List Int)), xs = [V.ref l] ∧ (SqL K H l (ks.map fun p => V.ref p.1) ∨ SqT K H l (ks.map fun p => V.ref p.1)) ∧ (∀ p ∈ ks, SqT K H p.1 (p.2.map V.int)) ∧ ks.length < 64 ∧
  ∀ a L, H a = none → (∀ p ∈ L, p ∈ ks) → (∀ p ∈ ks, p.2 ∈ L.map (·.2)) → (L.length ≤ ks.length) → (L.map (·.2)).Nodup → Q (.ref a) (upd H a (SetTO P w a L))
section
variable {X : Cx}
theorem cr_setOfU (hc : X.calm = true) (hu : X.A.units + 64 < cLine) : CallR X (.type "set") (rSetOfU X.K X.prog X.w) := by
  intro pins s σ H xs us Q I r h
  obtain ⟨l, ks, rfl, hl, hk, hf, q⟩ := h
  rw [Vals.ref1 r]
  have hn : H s.heap.objs.size = none := I.hok.fresh (Nat.le_refl _)
  rcases hl with hl | hl
  · obtain ⟨its, rv, pl, hz⟩ := I.list hl
    refine call_set_tups (P := X.prog) (w := X.w) ks (I.ok.hd hc) pl.isList (by simpa using refs_of_vals rv) (fun p hp => I.isT (hk p hp)) hf (by omega) fun h' tk L es ep t R g k => ?_
    refine ⟨.ref s.heap.objs.size, upd H s.heap.objs.size (SetTO X.prog X.w s.heap.objs.size L), I.laid (t' := tk) k (Nat.le_refl _) (setTO_new R.t0), rfl, q _ L hn (fun p hp => ?_) (fun p hp => ?_) g.len R.nd⟩
    · exact List.mem_of_mem_take (g.sub p hp)
    · exact g.all p (by rw [List.take_length]; exact hp)
  · obtain ⟨its, rv, ⟨o, ho, hcl, n, hd⟩, _⟩ := I.tuple hl
    refine set_of_tuple (P := X.prog) (w := X.w) (items := its.toArray) ks (I.ok.hd hc) ⟨o, ho, hcl, n, hd⟩ (by simpa using refs_of_vals rv) (fun p hp => I.isT (hk p hp)) hf (by omega) fun h' tk L es ep t R g k => ?_
    refine ⟨.ref s.heap.objs.size, upd H s.heap.objs.size (SetTO X.prog X.w s.heap.objs.size L), I.laid (t' := tk) k (Nat.le_refl _) (setTO_new R.t0), rfl, q _ L hn (fun p hp => ?_) (fun p hp => ?_) g.len R.nd⟩
    · exact List.mem_of_mem_take (g.sub p hp)
    · exact g.all p (by rw [List.take_length]; exact hp)
/-- sorted of a set of at most one tuple -/
def rSortedT1 (K : PySem.W.Frag) (P : Program) (w : World) : List V → Hp → VK → Prop := fun vs H Q => ∃ (a : Addr) (L : List (Addr × List Int)), vs = [V.ref a] ∧ H a = some (SetTO P w a L) ∧ (∀ p ∈ L, SqT K H p.1 (p.2.map V.int)) ∧ L.length ≤ 1 ∧
  ∀ p, H p = none → Q (.ref p) (upd H p (.lst (L.map fun q => V.ref q.1)))
theorem cr_sortedT1 (hc : X.calm = true) : CallR X (.builtin "sorted") (rSortedT1 X.K X.prog X.w) := by
  intro pins s σ H vs us Q I r h
  obtain ⟨a, L, rfl, ha, hk, hl, q⟩ := h
  have R0 : SetT0 X.prog X.w s.heap a L := (I.hok a _ ha).1
  obtain ⟨es, ep, t, R⟩ := R0.full fun p hp => I.isT (hk p hp)
  rw [Vals.ref1 r]
  refine sorted_setT1 R (I.ok.hd hc) hl fun s' p out c k g o hp hg hout => ?_
  have hlen : (L.map fun q => V.ref q.1).length ≤ sizeLine := by rw [List.length_map, sizeLine_eq]; omega
  have hn : H p = none := I.hok.fresh hp
  have hv : Vals (L.map fun q => V.ref q.1) out.toList := by rw [hout]; exact vals_of_refs L
  have J : Inv X pins σ (upd H p (.lst (L.map fun q => V.ref q.1))) { s with heap := s'.heap, gens := s'.gens, drawn := s'.drawn, toks := s'.toks } :=
    I.call (ch := []) (Un.laid k hp hn) (I.hok.laid k hp ⟨hlen, out.toList, c, hv, hg⟩) (by rw [g]; exact I.bare) (fun _ z => nomatch z)
  have e : s' = { s with heap := s'.heap, gens := s'.gens, drawn := s'.drawn, toks := s'.toks } := by
    cases s'
    cases s
    cases o
    rfl
  rw [e]
  exact ⟨.ref p, _, J, rfl, q p hn⟩
/-- sorted of a set -/
def rSortedU (K : PySem.W.Frag) (P : Program) (w : World) : List V → Hp → VK → Prop := fun vs H Q => rSortedT1 K P w vs H Q ∨ rSortedT K P w vs H Q
theorem cr_sortedU (hc : X.calm = true) : CallR X (.builtin "sorted") (rSortedU X.K X.prog X.w) := by
  intro pins s σ H vs us Q I r h
  rcases h with h | h
  · exact cr_sortedT1 hc pins s σ H vs us Q I r h
  · exact cr_sortedT hc pins s σ H vs us Q I r h
theorem RA.tups {F : Hp} : ∀ {vs : List V} {ks : List (List Int)}, RA F vs (ks.map fun k => PyData.tuple (k.map .int)) → ∃ L : List (Addr × List Int), vs = L.map (fun p => V.ref p.1) ∧ L.map (·.2) = ks ∧ ∀ p ∈ L, F p.1 = some (.tup (p.2.map V.int))
  | [], [], _ => ⟨[], rfl, rfl, fun _ h => nomatch h⟩
  | _, k :: ks, h => by
    cases h with
    | cons r t =>
      obtain ⟨L, rfl, h2, h3⟩ := RA.tups t
      cases r with
      | tup g1 g2 =>
        rw [g2.ints] at g1
        refine ⟨(_, k) :: L, rfl, by rw [List.map_cons, h2], fun p hp => ?_⟩
        rcases List.mem_cons.mp hp with rfl | hp
        · exact g1
        · exact h3 p hp
variable {a e : Expr} {C C1 : Ct} {d : D} {pos p q pos2 : Pos} {ks : List (List Int)}
theorem ra_of_tups {F : Hp} : ∀ {L : List (Addr × List Int)}, (∀ p ∈ L, F p.1 = some (.tup (p.2.map V.int))) → RA F (L.map fun p => V.ref p.1) ((L.map (·.2)).map fun k => PyData.tuple (k.map .int))
  | [], _ => .nil
  | p :: L, h => .cons (.tup (h p (by simp)) (ra_ints p.2)) (ra_of_tups fun q hq => h q (by simp [hq]))
theorem g_sortSet {n : Nat} (hc : X.calm = true) (hu : X.A.units + 64 < cLine) (ho : setOk ks = true) (hs : sq d = some (ks.map fun k => PyData.tuple (k.map .int))) (hm : X.mg "set" = none) (hm2 : X.mg "sorted" = none) (ha : GV X a C d C1) (hg : Gl X "set" := by rfl) (hg2 : Gl X "sorted" := by rfl)
    (he : starEach [a] X.env = (false, eval a X.env) :: starEach [] X.env := by rfl) (he2 : starEach [.Call (.Name "set" q) [a] [] pos2] X.env = (false, eval (.Call (.Name "set" q) [a] [] pos2) X.env) :: starEach [] X.env := by rfl)
    (hpl : (backTo pos2 (starEach [] X.env)).any (·.1) = false := by rfl) (hpl2 : (backTo pos (starEach [] X.env)).any (·.1) = false := by rfl) :
    GL X (.Call (.Name "sorted" p) [.Call (.Name "set" q) [a] [] pos2] [] pos) C ((sset ks).map fun k => PyData.tuple (k.map .int)) C1 := fun F H σ S Q qq => by
  refine wpE_of (pe_callB (r := rSortedU X.K X.prog X.w) (cr_sortedU hc) hg2 hm2 (by decide +kernel) (pa_cons (pe_callTy (r := rSetOfU X.K X.prog X.w) (cr_setOfU hc hu) hg hm (by decide +kernel) (pa_cons pe_wp pa_nil he) (by decide) (by decide) he hpl) pa_nil he2) (by decide) (by decide) he2 hpl2) ?_
  refine ha F H σ S _ fun v F1 H1 s1 S1 r1 => ?_
  obtain ⟨l, vs, rfl, hsq, ra⟩ := (r1.rd S1).seq (K := X.K) S1.ex hs
  obtain ⟨L0, rfl, hL, hT⟩ := RA.tups ra
  have hl64 : L0.length < 64 := by
    have : L0.length = ks.length := by rw [← hL, List.length_map]
    unfold setOk at ho
    rw [Bool.and_eq_true] at ho
    rw [this]; exact of_decide_eq_true ho.1
  refine ⟨l, L0, rfl, hsq, fun p hp => .of (S1.ex _ _ (hT p hp)), hl64, fun sa L hn hsub hall hlen hnd => ?_⟩
  have x1 : XS F1 H1 F1 (upd H1 sa (SetTO X.prog X.w sa L)) := XS.fresh S1.ex hn (fun _ z => by unfold SetTO at z; cases z)
  have S2 := S1.xs x1
  have inL : ∀ p ∈ L, F1 p.1 = some (.tup (p.2.map V.int)) := fun p hp => hT p (hsub p hp)
  have hK : ∀ p ∈ L, SqT X.K (upd H1 sa (SetTO X.prog X.w sa L)) p.1 (p.2.map V.int) := fun p hp => .of (S2.ex _ _ (inL p hp))
  have mem : ∀ x, x ∈ L.map (·.2) ↔ x ∈ ks := fun x => by
    rw [← hL]
    constructor
    · intro h
      obtain ⟨p, hp, rfl⟩ := List.mem_map.mp h
      exact List.mem_map.mpr ⟨p, hsub p hp, rfl⟩
    · intro h
      obtain ⟨p, hp, rfl⟩ := List.mem_map.mp h
      exact hall p hp
  have hkl : ks.length = L0.length := by rw [← hL, List.length_map]
  by_cases h1 : (ddup ks).length ≤ 1
  · have pmL : (L.map (·.2)).Perm (ddup ks) := (List.perm_ext_iff_of_nodup hnd nodup_ddup).mpr fun x => by rw [mem, mem_ddup]
    have hL1 : L.length ≤ 1 := by
      have := pmL.length_eq
      rw [List.length_map] at this
      omega
    refine .inl ⟨sa, L, rfl, upd_same, hK, hL1, fun pp hpp => ?_⟩
    have e : L.map (·.2) = sset ks := sset_uniq ho hnd mem fun h => absurd h (by omega)
    have rr := ra_of_tups inL
    rw [e] at rr
    exact GL.of qq (s1.trans x1.stp) S2 hpp rr
  · have ho' := ho
    unfold setOk at ho'
    rw [Bool.and_eq_true, Bool.or_eq_true] at ho'
    have h2 := ho'.2.resolve_left fun h => h1 (of_decide_eq_true h)
    rw [Bool.and_eq_true, List.all_eq_true] at h2
    have hb : ∀ x ∈ ks, x.length = (ks.headD []).length ∧ TS.Bd (bdB ks) x := fun x hx => by
      have := h2.2 x hx
      rw [Bool.and_eq_true, List.all_eq_true] at this
      exact ⟨of_decide_eq_true this.1, fun m hm => of_decide_eq_true (this.2 m hm)⟩
    refine .inr ⟨sa, L, (ks.headD []).length, bdB ks, rfl, upd_same, hK, of_decide_eq_true h2.1, fun p hp => hb p.2 ((mem p.2).mp (List.mem_map.mpr ⟨p, hp, rfl⟩)), fun L' pp pm nd hl pw hpp => ?_⟩
    have e : L'.map (·.2) = sset ks := sset_uniq ho nd (fun x => by rw [(pm.map (·.2)).mem_iff]; exact mem x) fun _ => List.pairwise_map.mpr pw
    have rr := ra_of_tups fun p hp => inL p (pm.mem_iff.mp hp)
    rw [e] at rr
    exact GL.of qq (s1.trans x1.stp) S2 hpp rr
end
end G
/-! G24: repr, min of tuples, typed dicts with tuple keys, typed sorted(set(..)). -/
namespace G
open PySem L2 PyProof.Rows
open PySem.W (alike AllAlike dataLt minD min_list_data)
/-! ### repr -/
def okR (d : D) : Bool := d.showable && !d.hasDict && decide (d.depth ≤ 64) && decide (d.shown.length ≤ 16777216)
def rReprD (K : PySem.W.Frag) : List V → Hp → VK → Prop := fun vs H Q => ∃ (v : V) (d : D), vs = [v] ∧ Dp K H v d ∧ okR d = true ∧ Q (.str d.shown) H
section
variable {X : Cx} {a b c e : Expr} {C C1 C2 C3 C' : Ct} {d d1 d2 d3 : D} {ds : List D} {pos p p2 p3 q2 pos2 : Pos} {x : Str} {P : Out → Prop} {rest : List Stmt}
theorem cr_repr {k : Nat} (hr : RoomG k X.A) : CallR X (.builtin "repr") (rReprD X.K) := by
  intro pins s σ H vs us Q I r h
  obtain ⟨v, d, rfl, hd, hok, q⟩ := h
  obtain ⟨u, rfl, rx⟩ := r.one
  unfold okR at hok
  simp only [Bool.and_eq_true, Bool.not_eq_true', decide_eq_true_eq] at hok
  obtain ⟨⟨⟨h1, h2⟩, h3⟩, h4⟩ := hok
  have hz : d.shown.length ≤ sizeLine := by rw [sizeLine_eq]; exact h4
  obtain ⟨as, rd⟩ := Dp.reads I d v u hd rx
  cases d with
  | none =>
    cases rd
    exact P.repr_of_none ⟨.str _, H, I.tok _, ⟨_, rfl⟩, by simpa only [PyData.shown] using q⟩
  | bool b =>
    cases rd
    exact P.repr_of_bool ⟨.str _, H, I.tok _, ⟨_, rfl⟩, by simpa only [PyData.shown] using q⟩
  | int i =>
    cases rd
    exact P.repr_of_int (by simpa [PyData.showable] using h1) ⟨.str _, H, I.tok _, ⟨_, rfl⟩, by simpa only [PyData.shown] using q⟩
  | str y =>
    cases rd
    exact P.repr_of_str ⟨.str _, H, I.tok _, ⟨_, rfl⟩, by simpa only [PyData.shown] using q⟩ (by simpa only [PyData.shown] using hz)
  | list xs =>
    cases rd with
    | list g1 g2 g3 g4 => exact repr_of_reads' (.list g1 g2 g3 g4) h1 (PyData.noDict_hsm h2) hr.gu (by have := hr.un; omega) (fun _ _ e => e) (fun h' u tk hk => ⟨.str _, H, I.kept hk, ⟨_, rfl⟩, q⟩) hz
  | tuple xs =>
    cases rd with
    | tuple g1 g2 g3 g4 => exact repr_of_reads' (.tuple g1 g2 g3 g4) h1 (PyData.noDict_hsm h2) hr.gu (by have := hr.un; omega) (fun _ _ e => e) (fun h' u tk hk => ⟨.str _, H, I.kept hk, ⟨_, rfl⟩, q⟩) hz
  | dict kvs => simp [PyData.hasDict] at h2
theorem g_repr {k : Nat} (hr : RoomG k X.A) (ho : okR d = true) (hm : X.mg "repr" = none) (ha : GE X a C d C1) (hg : Gl X "repr" := by rfl) (he : starEach [a] X.env = (false, eval a X.env) :: starEach [] X.env := by rfl) (hpl : (backTo pos (starEach [] X.env)).any (·.1) = false := by rfl) :
    GE X (.Call (.Name "repr" p) [a] [] pos) C (.str d.shown) C1 := fun F H σ S Q q => by
  refine wpE_of (pe_callB (r := rReprD X.K) (cr_repr hr) hg hm (by decide +kernel) (pa_cons pe_wp pa_nil he) (by decide) (by decide) he hpl) ?_
  exact ha F H σ S _ fun v F1 H1 s1 S1 r1 => ⟨v, d, rfl, r1.dp S1.ex, ho, q _ F1 H1 s1 S1 (.str _)⟩
/-! ### min of a list of tuples of ints -/
theorem alike_W (a b : List Int) : alike (eT PyData.int a) (eT PyData.int b) = true := by
  show PySem.W.alikeAll (a.map .int) (b.map .int) = true
  exact PySem.W.alike_ints a b
def wmin : List (List Int) → Option (List Int)
  | [] => none
  | x :: xs => some (xs.foldl (fun a y => if dataLt (eT PyData.int y) (eT PyData.int a) then y else a) x)
theorem wmin_D {x : List Int} : ∀ {xs : List (List Int)}, minD (eT PyData.int x) (xs.map (eT PyData.int)) = eT PyData.int (xs.foldl (fun a y => if dataLt (eT PyData.int y) (eT PyData.int a) then y else a) x) := fun {xs} => by
  unfold minD
  induction xs generalizing x with
  | nil => rfl
  | cons y ys ih =>
    rw [List.map_cons, List.foldl_cons, List.foldl_cons, ← ih]
    split <;> rfl
def rMinW (K : PySem.W.Frag) : List V → Hp → VK → Prop := fun vs H Q => ∃ (a : Addr) (ps : List (V × List Int)) (m : List Int), vs = [V.ref a] ∧ SqL K H a (ps.map (·.1)) ∧ (∀ p ∈ ps, Dp K H p.1 (eT PyData.int p.2)) ∧ wmin (ps.map (·.2)) = some m ∧
  ∀ p ∈ ps, p.2 = m → Q p.1 H
theorem eT_inj {a b : List Int} (h : eT PyData.int a = eT PyData.int b) : a = b := by
  have h' : a.map PyData.int = b.map PyData.int := by injection h
  exact List.map_inj_right (fun x y e => by injection e) |>.mp h'
theorem depth_W (a : List Int) : (eT PyData.int a).depth = 1 := by
  show (PyData.tuple (a.map .int)).depth = 1
  simp only [PyData.depth]
  rw [PySem.W.depth_ints]
theorem depthAll_W : ∀ l : List (List Int), PyData.depthAll (l.map (eT PyData.int)) ≤ 1
  | [] => Nat.zero_le _
  | a :: l => by
    rw [List.map_cons]
    simp only [PyData.depthAll]
    rw [depth_W]
    exact Nat.max_le.mpr ⟨Nat.le_refl _, depthAll_W l⟩
theorem Vals.bk : ∀ {xs : List V} {us : List Value} {i : Nat} {u : Value}, Vals xs us → us[i]? = some u → ∃ x, xs[i]? = some x ∧ RelV x u
  | _, _, _, _, .nil, h => by simp at h
  | _, _, 0, _, .cons r _, h => by simp at h; subst h; exact ⟨_, rfl, r⟩
  | _, _, i + 1, _, .cons _ t, h => by
    obtain ⟨x, h1, h2⟩ := Vals.bk (i := i) t (by simpa using h)
    exact ⟨x, by simpa using h1, h2⟩
theorem DpAll.of {K : PySem.W.Frag} {H : Hp} : ∀ {ps : List (V × List Int)}, (∀ p ∈ ps, Dp K H p.1 (eT PyData.int p.2)) → DpAll K H (ps.map (·.1)) ((ps.map (·.2)).map (eT PyData.int))
  | [], _ => .nil
  | p :: ps, h => .cons (h p (by simp)) (DpAll.of fun q hq => h q (by simp [hq]))
theorem cr_minW {k : Nat} (hc : X.calm = true) (hr : RoomG k X.A) : CallR X (.builtin "min") (rMinW X.K) := by
  intro pins s σ H vs us Q I r h
  obtain ⟨a, ps, m, rfl, hs, hd, hm, q⟩ := h
  obtain ⟨its, rv, hl, hz⟩ := I.list hs
  rw [Vals.ref1 r]
  obtain ⟨as, rda⟩ := Dp.readsAll I _ _ its (DpAll.of hd) rv
  cases ps with
  | nil => cases hm
  | cons p0 ps0 =>
    have hm' : (ps0.map (·.2)).foldl (fun a y => if dataLt (eT PyData.int y) (eT PyData.int a) then y else a) p0.2 = m := Option.some.inj hm
    refine min_list_data (vs := its.toArray) (x := eT PyData.int p0.2) (xs := (ps0.map (·.2)).map (eT PyData.int)) (I.ok.hd hc) hl.isList (by simpa using rda) ⟨fun x hx y hy => ?_, fun x hx => ?_⟩ ?_ fun i v h' tk bs hv rdm hk => ?_
    · have hx' : x ∈ ((p0 :: ps0).map (·.2)).map (eT PyData.int) := hx
      have hy' : y ∈ ((p0 :: ps0).map (·.2)).map (eT PyData.int) := hy
      obtain ⟨a, _, rfl⟩ := List.mem_map.mp hx'
      obtain ⟨b, _, rfl⟩ := List.mem_map.mp hy'
      exact alike_W a b
    · have hx' : x ∈ ((p0 :: ps0).map (·.2)).map (eT PyData.int) := hx
      obtain ⟨a, _, rfl⟩ := List.mem_map.mp hx'
      exact fun z => nomatch z
    · have h1 : PyData.depthAll (eT PyData.int p0.2 :: (ps0.map (·.2)).map (eT PyData.int)) ≤ 1 := depthAll_W (p0.2 :: ps0.map fun p : V × List Int => p.2)
      have := hr.un
      omega
    · have hi : its[i]? = some v := by rw [← List.getElem?_toArray]; exact hv
      obtain ⟨p, hp, rp⟩ := Vals.bk (i := i) rv hi
      rw [List.getElem?_map] at hp
      obtain ⟨pp, hpp, rfl⟩ := Option.map_eq_some_iff.mp hp
      have hmem := List.mem_of_getElem? hpp
      obtain ⟨bs2, rd2⟩ := Dp.reads I _ _ v (hd pp hmem) rp
      have e := (Reads.unique (Reads.keeps hk rd2) _ _ rdm).1
      rw [wmin_D, hm'] at e
      exact ⟨pp.1, H, I.kept hk, rp, q pp hmem (eT_inj e)⟩
theorem RA.wpairs {F : Hp} : ∀ {vs : List V} {ws : List (List Int)}, RA F vs (ws.map (eT PyData.int)) → ∃ ps : List (V × List Int), vs = ps.map (·.1) ∧ ws = ps.map (·.2) ∧ ∀ p ∈ ps, R F p.1 (eT PyData.int p.2)
  | [], [], _ => ⟨[], rfl, rfl, fun _ h => nomatch h⟩
  | _, w :: ws, h => by
    cases h with
    | cons r t =>
      obtain ⟨ps, rfl, rfl, h3⟩ := RA.wpairs t
      refine ⟨(_, w) :: ps, rfl, rfl, fun p hp => ?_⟩
      rcases List.mem_cons.mp hp with rfl | hp
      · exact r
      · exact h3 p hp
theorem g_minW {k : Nat} {ws : List (List Int)} {m : List Int} (hc : X.calm = true) (hr : RoomG k X.A) (ho : wmin ws = some m) (hm : X.mg "min" = none) (ha : GV X a C (eL (eT PyData.int) ws) C1) (hg : Gl X "min" := by rfl) (he : starEach [a] X.env = (false, eval a X.env) :: starEach [] X.env := by rfl) (hpl : (backTo pos (starEach [] X.env)).any (·.1) = false := by rfl) :
    GE X (.Call (.Name "min" p) [a] [] pos) C (eT PyData.int m) C1 := fun F H σ S Q q => by
  refine wpE_of (pe_callB (r := rMinW X.K) (cr_minW hc hr) hg hm (by decide +kernel) (pa_cons pe_wp pa_nil he) (by decide) (by decide) he hpl) ?_
  refine ha F H σ S _ fun v F1 H1 s1 S1 r1 => ?_
  obtain ⟨l, vs, rfl, h, ra⟩ := (r1.rd S1).list S1.ex
  obtain ⟨ps, rfl, rfl, hps⟩ := RA.wpairs ra
  exact ⟨l, ps, m, rfl, .inl h, fun p hp => (hps p hp).dp S1.ex, ho, fun p hp e => q _ F1 H1 s1 S1 (e ▸ hps p hp)⟩
/-! ### D as a tuple of tuples of ints -/
def toTW : D → Option (List (List Int))
  | .tuple ds => ds.mapM toW
  | _ => none
theorem mapM_toW : ∀ {ds : List D} {ws : List (List Int)}, ds.mapM toW = some ws → ds = ws.map (eT PyData.int)
  | [], ws, h => by cases h; rfl
  | d :: ds, ws, h => by
    rw [List.mapM_cons] at h
    obtain ⟨w, h1, h⟩ := Option.bind_eq_some_iff.mp h
    obtain ⟨ws', h2, h⟩ := Option.bind_eq_some_iff.mp h
    cases h
    rw [List.map_cons, ← mapM_toW h2, ← toW_eq h1]
theorem toTW_eq {d : D} {ws : List (List Int)} (h : toTW d = some ws) : d = eT (eT PyData.int) ws := by
  cases d with
  | tuple ds => rw [mapM_toW h]
  | _ => cases h
theorem GE.toTW {ws : List (List Int)} (h : toTW d = some ws) (g : GE X e C d C1) : GE X e C (eT (eT PyData.int) ws) C1 := by
  rw [← toTW_eq h]; exact g
/-! ### typed -/
theorem t_sortSet {ks : List (List Int)} {k : Nat} (hr : RoomG k X.A) (hc : X.calm = true) (ho : setOk ks = true) (hs : sq d = some (ks.map (eT PyData.int))) (hm : X.mg "set" = none) (hm2 : X.mg "sorted" = none) (ha : GV X a C d C1) (hg : Gl X "set" := by rfl) (hg2 : Gl X "sorted" := by rfl)
    (he : starEach [a] X.env = (false, eval a X.env) :: starEach [] X.env := by rfl) (he2 : starEach [.Call (.Name "set" q2) [a] [] pos2] X.env = (false, eval (.Call (.Name "set" q2) [a] [] pos2) X.env) :: starEach [] X.env := by rfl)
    (hpl : (backTo pos2 (starEach [] X.env)).any (·.1) = false := by rfl) (hpl2 : (backTo pos (starEach [] X.env)).any (·.1) = false := by rfl) :
    GL X (.Call (.Name "sorted" p) [.Call (.Name "set" q2) [a] [] pos2] [] pos) C ((sset ks).map (eT PyData.int)) C1 :=
  g_sortSet (n := 0) hc (by have := hr.un; omega) ho hs hm hm2 ha hg hg2 he he2 hpl hpl2
end
/-- keys as nested keys -/
structure NKE {κ : Type} (ε : κ → D) (f : κ → NestedKey) (n : Nat) : Prop where
  data : ∀ x, (f x).data = ε x
  inj : ∀ x y, f x = f y → x = y
  dep : ∀ x, (f x).depth ≤ n
theorem NKE.int : NKE PyData.int NestedKey.num 0 := ⟨fun _ => by simp only [NestedKey.data], fun _ _ h => by injection h, fun _ => by simp [NestedKey.depth]⟩
def nkT {κ : Type} (f : κ → NestedKey) (xs : List κ) : NestedKey := .tup (xs.map f)
def nkP {κ ι : Type} (f : κ → NestedKey) (g : ι → NestedKey) (x : κ × ι) : NestedKey := .tup [f x.1, g x.2]
theorem NKE.T {κ : Type} {ε : κ → D} {f : κ → NestedKey} {n : Nat} (h : NKE ε f n) : NKE (eT ε) (nkT f) (n + 1) := by
  have hd : ∀ xs : List κ, NestedKey.datas (xs.map f) = xs.map ε := fun xs => by
    induction xs with
    | nil => rfl
    | cons x xs ih => rw [List.map_cons]; simp only [NestedKey.datas]; rw [h.data, ih]; rfl
  have hp : ∀ xs : List κ, NestedKey.depthAll (xs.map f) ≤ n := fun xs => by
    induction xs with
    | nil => exact Nat.zero_le _
    | cons x xs ih => rw [List.map_cons]; simp only [NestedKey.depthAll]; exact Nat.max_le.mpr ⟨h.dep x, ih⟩
  refine ⟨fun x => ?_, fun x y e => ?_, fun x => ?_⟩
  · unfold nkT; simp only [NestedKey.data]; rw [hd]
  · have e' : x.map f = y.map f := by unfold nkT at e; injection e
    exact List.map_inj_right (fun a b q => h.inj a b q) |>.mp e'
  · unfold nkT; simp only [NestedKey.depth]; exact Nat.succ_le_succ (hp x)
theorem NKE.P {κ ι : Type} {ε : κ → D} {η : ι → D} {f : κ → NestedKey} {g : ι → NestedKey} {n : Nat} (h : NKE ε f n) (h2 : NKE η g n) : NKE (eP ε η) (nkP f g) (n + 1) := by
  refine ⟨fun x => ?_, fun x y e => ?_, fun x => ?_⟩
  · unfold nkP; simp only [NestedKey.data, NestedKey.datas]; rw [h.data, h2.data]
  · unfold nkP at e
    injection e with e
    injection e with e1 e2
    injection e2 with e2
    exact Prod.ext (h.inj _ _ e1) (h2.inj _ _ e2)
  · unfold nkP; simp only [NestedKey.depth, NestedKey.depthAll]
    have := h.dep x.1
    have := h2.dep x.2
    omega
abbrev eN {κ β : Type} (f : κ → NestedKey) (η : β → D) (kvs : List (κ × β)) : List (NestedKey × D) := kvs.map fun kv => (f kv.1, η kv.2)
section
variable {κ β : Type} [DecidableEq κ] {ε : κ → D} {η : β → D} {f : κ → NestedKey} {m : Nat}
theorem ndget_map (h : NKE ε f m) {k : κ} : ∀ {kvs : List (κ × β)}, dget (eN f η kvs) (f k) = (dget kvs k).map η
  | [] => rfl
  | kv :: kvs => by
    have ih := ndget_map h (k := k) (kvs := kvs)
    by_cases e : kv.1 = k
    · simp [dget, e]
    · have e2 : ¬ f kv.1 = f k := fun q => e (h.inj _ _ q)
      simpa [dget, List.find?_cons, e, e2] using ih
theorem ndput_map (h : NKE ε f m) {k : κ} {v : β} {kvs : List (κ × β)} : dput (eN f η kvs) (f k) (η v) = eN f η (dput kvs k v) := by
  unfold dput
  rw [dget_any, dget_any, ndget_map h, Option.isSome_map]
  split
  · show (kvs.map _).map _ = (kvs.map _).map _
    rw [List.map_map, List.map_map]
    congr 1
    funext kv
    by_cases e : kv.1 = k
    · simp [e]
    · have e2 : ¬ f kv.1 = f k := fun q => e (h.inj _ _ q)
      simp [e, e2]
  · show _ = (kvs ++ [(k, v)]).map _
    rw [List.map_append]; rfl
theorem KD.of (h : NKE ε f m) (hm : m ≤ 8) (k : κ) (hk : ∃ ks, f k = .tup ks) : KD (f k) (ε k) := ⟨h.data k, Nat.le_trans (h.dep k) hm, hk⟩
variable {X : Cx} {a b c e : Expr} {C C1 C2 C3 C' : Ct} {pos p p2 p3 : Pos} {x : Str} {P : Out → Prop} {rest : List Stmt} {kvs : List (κ × β)} {k : κ} {v : β}
theorem t_nin {n : Nat} (i : Nat) (h : NKE ε f m) (hrm : RoomG n X.A) (hC : C[i]? = some (.ob (nkS X.prog X.w (eN f η kvs)))) (hb : GE X b C (ε k) C) (hk : ∃ ks, f k = .tup ks := by exact ⟨_, rfl⟩) (hm : m ≤ 8 := by exact Nat.le_of_ble_eq_true rfl) (hN : X.N[i]? = some x := by rfl) (hv : Vis X.env.scope x := by first | exact Or.inl rfl | exact Or.inr (Or.inl rfl) | exact Or.inr (Or.inr rfl)) (hd : (x == ("__debug__" : Str)) = false := by decide) (hcd : (x == ("__classdict__" : Str)) = false := by decide) :
    GT X (.Compare b [.In] [.Name x p] pos) C ((dget kvs k).isSome) C := by
  have := gt_nin (p := p) (pos := pos) i hrm hC hb (KD.of h hm k hk) hN hv hd hcd
  rw [ndget_map h, Option.isSome_map] at this
  exact this
theorem t_nnotin {n : Nat} (i : Nat) (h : NKE ε f m) (hrm : RoomG n X.A) (hC : C[i]? = some (.ob (nkS X.prog X.w (eN f η kvs)))) (hb : GE X b C (ε k) C) (hk : ∃ ks, f k = .tup ks := by exact ⟨_, rfl⟩) (hm : m ≤ 8 := by exact Nat.le_of_ble_eq_true rfl) (hN : X.N[i]? = some x := by rfl) (hv : Vis X.env.scope x := by first | exact Or.inl rfl | exact Or.inr (Or.inl rfl) | exact Or.inr (Or.inr rfl)) (hd : (x == ("__debug__" : Str)) = false := by decide) (hcd : (x == ("__classdict__" : Str)) = false := by decide) :
    GT X (.Compare b [.NotIn] [.Name x p] pos) C (!(dget kvs k).isSome) C := by
  have := gt_nnotin (p := p) (pos := pos) i hrm hC hb (KD.of h hm k hk) hN hv hd hcd
  rw [ndget_map h, Option.isSome_map] at this
  exact this
theorem t_ndisp {n : Nat} {ke ve : Expr} (i : Nat) (h : NKE ε f m) (hrm : RoomG n X.A) (hN : X.N.Nodup) (hke : GE X ke C (ε k) C) (hve : GE X ve C (η v) C) (hr : GS X rest (C.set i (.ob (nkS X.prog X.w (eN f η [(k, v)])))) P) (hk : ∃ ks, f k = .tup ks := by exact ⟨_, rfl⟩) (hm : m ≤ 8 := by exact Nat.le_of_ble_eq_true rfl) (hl : i < C.length := by exact Nat.le_of_ble_eq_true rfl) (hi : X.N[i]? = some x := by rfl) (hx : Loc X.env.scope x := by first | exact .inl rfl | exact .inr rfl)
    (hs : swapsWith (.Dict [some ke] [ve] p3) (some (.Name x p2)) pos.line X.env = pure false := by rfl) (hf : X.fn x = true ∨ X.env.scope.names.lookup x = some .local := by first | exact .inl rfl | exact .inr rfl) : GS X (.Assign [.Name x p2] (.Dict [some ke] [ve] p3) pos :: rest) C P :=
  gs_ndisp i hrm hN hke hve (KD.of h hm k hk) hr hl hi hx hs hf
theorem t_nput {n : Nat} (i : Nat) (h : NKE ε f m) (hrm : RoomG n X.A) (hz : szOk (kvs.length + 1) = some ()) (hv0 : GE X e C (η v) C1) (hC1 : C1[i]? = some (.ob (nkS X.prog X.w (eN f η kvs)))) (hb : GE X b C1 (ε k) C1) (hr : GS X rest (C1.set i (.ob (nkS X.prog X.w (eN f η (dput kvs k v))))) P) (hk : ∃ ks, f k = .tup ks := by exact ⟨_, rfl⟩) (hm : m ≤ 8 := by exact Nat.le_of_ble_eq_true rfl)
    (hN : X.N[i]? = some x := by rfl) (hv : Vis X.env.scope x := by first | exact Or.inl rfl | exact Or.inr (Or.inl rfl) | exact Or.inr (Or.inr rfl)) (hd : (x == ("__debug__" : Str)) = false := by decide) (hcd : (x == ("__classdict__" : Str)) = false := by decide)
    (hs : swapsWith e (some (.Subscript (.Name x p2) b p3)) pos.line X.env = pure false := by rfl) : GS X (.Assign [.Subscript (.Name x p2) b p3] e pos :: rest) C P := by
  rw [← ndput_map h] at hr
  exact gs_nput i hrm (by rw [List.length_map]; exact hz) hv0 hC1 hb (KD.of h hm k hk) hr hN hv hd hcd hs
theorem t_nlist (i : Nat) (h : NKE ε f m) (hc : X.calm = true) (hC : C[i]? = some (.ob (nkS X.prog X.w (eN f η kvs)))) (hm : X.mg "list" = none) (hg : Gl X "list" := by rfl) (he : starEach [.Name x p2] X.env = (false, eval (.Name x p2) X.env) :: starEach [] X.env := by rfl) (hpl : (backTo pos (starEach [] X.env)).any (·.1) = false := by rfl)
    (hN : X.N[i]? = some x := by rfl) (hv : Vis X.env.scope x := by first | exact Or.inl rfl | exact Or.inr (Or.inl rfl) | exact Or.inr (Or.inr rfl)) (hd : (x == ("__debug__" : Str)) = false := by decide) (hcd : (x == ("__classdict__" : Str)) = false := by decide) :
    GL X (.Call (.Name "list" p) [.Name x p2] [] pos) C ((kvs.map (·.1)).map ε) C := by
  have := g_nlist (p := p) (p2 := p2) (pos := pos) i hc hC hm hg he hpl hN hv hd hcd
  have e1 : (eN f η kvs).map (fun kv => kv.1.data) = (kvs.map (·.1)).map ε := by
    rw [List.map_map, List.map_map]
    congr 1
    funext kv
    exact h.data kv.1
  rw [e1] at this
  exact this
end
end G
/-! G25: texts in lists. -/
namespace G
open PySem L2 PyProof.Rows
section
variable {X : Cx} {u : Str} {xs : List Str} {d2 : D}
theorem v_inStr (h1 : SeqAt.shaped (.str u) = true) (hs : sq d2 = some (xs.map PyData.str)) (hd : SeqAt.shaped d2 = true) : V2 (rInS X.K false) (.str u) d2 (.bool (decide (u ∈ xs))) := by
  have := v_in (X := X) (neg := false) hs h1 hd
  rw [isIn_map Eqv.str] at this
  exact this
theorem v_notInStr (h1 : SeqAt.shaped (.str u) = true) (hs : sq d2 = some (xs.map PyData.str)) (hd : SeqAt.shaped d2 = true) : V2 (rInS X.K true) (.str u) d2 (.bool (!decide (u ∈ xs))) := by
  have := v_in (X := X) (neg := true) hs h1 hd
  rw [isIn_map Eqv.str] at this
  exact this
theorem gd_t {b : Bool} {u : Unit} (h : gd b = some u) : b = true := by
  unfold gd at h
  cases b with
  | true => rfl
  | false => cases h
end
end G
/-! G26: sorted(xs, key=lambda g: (len(g), g)). -/
namespace G
open PySem PySem.Spec L2 PyProof.Rows
mutual
def noL : D → Bool
  | .list _ => false
  | .dict _ => false
  | .tuple ds => noLs ds
  | _ => true
def noLs : List D → Bool
  | [] => true
  | d :: ds => noL d && noLs ds
end
mutual
theorem reads_nil {h : Heap} : ∀ (d : D) {v : Value} {as : List Addr}, Reads h v d as → noL d = true → as = []
  | .none, _, _, r, _ => by cases r; rfl
  | .bool _, _, _, r, _ => by cases r; rfl
  | .int _, _, _, r, _ => by cases r; rfl
  | .str _, _, _, r, _ => by cases r; rfl
  | .list _, _, _, r, n => by simp [noL] at n
  | .dict _, _, _, r, n => by simp [noL] at n
  | .tuple ds, _, _, r, n => by
    cases r with
    | tuple h1 h2 h3 h4 => exact readsAll_nil ds h4 (by simpa [noL] using n)
theorem readsAll_nil {h : Heap} : ∀ (ds : List D) {vs : List Value} {as : List Addr}, ReadsAll h vs ds as → noLs ds = true → as = []
  | [], _, _, r, _ => by cases r; rfl
  | d :: ds, _, _, r, n => by
    cases r with
    | cons h1 h2 =>
      have n := Bool.and_eq_true_iff.mp (show (noL d && noLs ds) = true by simpa [noLs] using n)
      rw [reads_nil d h1 n.1, readsAll_nil ds h2 n.2]; rfl
end
def tupB : D → Bool
  | .tuple _ => true
  | _ => false
/-- can these keys be sorted? -/
def srtK (ds : List D) : Bool := ds.all (fun a => ds.all (PySem.W.alike a)) && ds.all tup1 && ds.all fun d => decide (d.depth ≤ 64)
/-- the key of a tuple -/
def keyD : D → D
  | .tuple ds => .tuple [.int ds.length, .tuple ds]
  | d => d
section
variable {P : Program} {w : World} {A : Around} {s : Shared} {mg : Str → Option Value} {base : Heap} {f c' : Addr} {q : Str} {params : Arguments} {scope : Scope} {pm ctv : Value} {g : Str} {p1 p2 p3 p4 p5 : Pos} {x1 : Nat}
abbrev lenBody (g : Str) (p1 p2 p3 p4 p5 : Pos) (x1 : Nat) : Expr := .Tuple [.Call (.Name "len" p1) [.Name g p2] [] p3, .Name g p4] x1 p5
theorem lam_turn {h : Heap} {tk : Nat} {a : Addr} {its : List Value} {ds : List D} (hroom : A.depth < recursionLimit) (hns : h.Ns mainGlobals mg) (hbl : ∃ mb, h.Ns builtinsNs mb ∧ ∀ x : Str, x ≠ "__name__" → mb x = bootBuiltins x) (hlim : h.NoLimit)
    (hm : mg "len" = none) (hf : h.get? f = some (PySem.W.kla_obj "<lambda>" q params (lenBody g p1 p2 p3 p4 p5 x1) scope [] pm c' ctv)) (hc : h.CodeRec (.ref c') q)
    (hbind : ∀ u, bindArgs (PySem.W.kla_fn "<lambda>" q params (lenBody g p1 p2 p3 p4 p5 x1) scope [] pm (.ref c') ctv) ⟨[u], []⟩ = pure [(g, u)])
    (hk : scope.kind = .function) (hco : scope.isCoroutine = false) (hge : scope.isGenerator = false) (hcell : ∀ y ∈ scope.names, y.2 ≠ .cell) (hg : scope.names.lookup g = some .local) (hl : scope.names.lookup ("len" : Str) = some .globalImplicit) (hgd : (g == ("__debug__" : Str)) = false)
    (ht : IsTup h a its.toArray) (hz : its.length ≤ sizeLine) (hr : Reads h (.ref a) (.tuple ds) []) (hds : its.length = ds.length) :
    wpAny (model P w) A (call (.ref f) [.ref a]) (PySem.W.KeyPure (keyD (.tuple ds)) { s with heap := h, toks := tk }) (fun _ _ => False) { s with heap := h, toks := tk } := by
  refine wpAny_call (PySem.W.kla_callFunE hroom hf rfl hco hge rfl hc ?_)
  rw [hbind]
  refine wpAny_pure (wpAny_newFunctionEnv hcell (fun y hy => ?_) (fun h₁ hns1 hsb => ⟨hlim.fresh _ hsb, ?_⟩) hk)
  · have : y = (g, Value.ref a) := by simpa using hy
    rw [this]; exact hg
  show codeAny _ _ (.expr (lenBody g p1 p2 p3 p4 p5 x1) (PySem.W.envX q scope h.objs.size f (.ref c') [])) _ _
  have kp : ∀ b o, h.get? b = some o → h₁.get? b = some o := fun b o e => hsb.extBut b o (Nat.ne_of_lt (Heap.lt_size e)) (Heap.get?_push_of_some _ e)
  have hg1 : h₁.Ns mainGlobals mg := hns.keeps kp
  obtain ⟨mb, hb1, hb2⟩ := hbl
  have hb1' : h₁.Ns builtinsNs mb := hb1.keeps kp
  have ht1 : IsTup h₁ a its.toArray := ht.keeps kp
  have hr1 : Reads h₁ (.ref a) (.tuple ds) [] := PyProof.Rows.Reads.keeps kp hr
  have nm : ∀ {A2 : Around} {E : Value → Shared → Prop} {s2 : Shared} {p : Pos} {Q : Value → Shared → Prop}, s2.heap = h₁ → Q (.ref a) s2 → wpAny (model P w) A2 (eval (.Name g p) (PySem.W.envX q scope h.objs.size f (.ref c') [])) Q E s2 := fun {A2 E s2 p Q} e hq =>
    wpAny_Name (wpAny_loadName_local (m := fun y => [(g, Value.ref a)].reverse.lookup y) (v := .ref a) hk hg (by rw [e]; exact hns1) (by simp) hq) hgd
  refine PySem.W.kla_codeExpr ?_
  refine wpAny_Tuple_spliced ?_
  show wpAny _ _ (spliced ((false, eval (.Call (.Name "len" p1) [.Name g p2] [] p3) (PySem.W.envX q scope h.objs.size f (.ref c') [])) :: backTo p5 (starEach [.Name g p4] (PySem.W.envX q scope h.objs.size f (.ref c') [])))) _ _ _
  refine Calls.spliced_cons ?_
  refine wpAny_Call_Name_kw (Calls.Name_function_global hk hl (Calls.loadGlobal_builtin (mg := mg) (mb := mb) hg1 hm hb1' ((hb2 "len" (by decide)).trans boot_len) ?_) (by decide))
  refine PyProof.Rows.callWith_builtin1 ?_ rfl rfl
  show wpAny _ _ (spliced ((false, eval (.Name g p2) (PySem.W.envX q scope h.objs.size f (.ref c') [])) :: backTo p3 (starEach [] (PySem.W.envX q scope h.objs.size f (.ref c') [])))) _ _ _
  refine Calls.spliced_cons (nm rfl (Calls.spliced_nil ?_))
  have hs : sizeLine = 16777216 := sizeLine_eq
  refine len_tuple ht1 (by simp only [List.size_toArray]; omega) ?_
  show wpAny _ _ (spliced ((false, eval (.Name g p4) (PySem.W.envX q scope h.objs.size f (.ref c') [])) :: backTo p5 (starEach [] (PySem.W.envX q scope h.objs.size f (.ref c') [])))) _ _ _
  refine Calls.spliced_cons (nm rfl (Calls.spliced_nil ⟨by show 2 ≤ sizeLine; omega, ?_⟩))
  refine ⟨_, _, rfl, fun b o e => Heap.get?_push_of_some _ (kp b o e), ?_⟩
  have e1 : ((its.toArray.size : Nat) : Int) = (ds.length : Int) := by rw [List.size_toArray, hds]
  rw [e1]
  exact Reads.tuple (n := 0) (Heap.get?_push_size _ rfl) rfl rfl (ReadsAll.cons (Reads.int _ _) (ReadsAll.cons (PyProof.Rows.Reads.keeps (fun b o e => Heap.get?_push_of_some _ e) hr1) ReadsAll.nil))
end
section
variable {X : Cx} {pins : List (Addr × Obj)} {σ : L2.St} {H : Hp} {s : Shared}
/-- the lambda is made: its code object is new, or found in the table; what is changed is told -/
theorem lam_make3 {q : Str} {c P : Addr} {ps : Array Value} {params : Arguments} {body : Expr} {scope : Scope} {pos : Pos} {E : Value → Shared → Prop} {Q : Value → Shared → Prop} (I : Inv X pins σ H s) (TB : LamX.TabB X.base X.mg c P) (hcode : X.env.code = .ref c) (hq : X.env.qual ++ "<lambda>" = q)
    (hP : H P = some (.tbl ps)) (ht : TriplesOk ps.toList) (ha : ∀ (pos : Pos) (cv : Value), codeAmong pos ps.toList = some cv → ∃ c, cv = .ref c ∧ H c = some (LamX.CodeO c q)) (hdef : defaultsOf params X.env = ([], [])) (hfree : ∀ y ∈ scope.names, y.2 = .free → ∃ c, X.env.cells.lookup y.1 = some c)
    (h : ∀ (f c' : Addr) (pm ctv : Value) (H1 : Hp) (s' : Shared), Inv X pins σ H1 s' → (H1 = H ∨ (H c' = none ∧ ∃ more, H1 = upd (upd H P (.tbl (ps ++ more))) c' (LamX.CodeO c' q) ∧ TriplesOk (ps ++ more).toList ∧ ∀ (pos : Pos) (cv : Value), codeAmong pos (ps ++ more).toList = some cv → codeAmong pos ps.toList = some cv ∨ cv = .ref c')) →
      s'.heap.get? f = some (PySem.W.kla_obj "<lambda>" q params body scope (cloFrom X.env.cells scope.names []) pm c' ctv) → H1 c' = some (LamX.CodeO c' q) → Q (.ref f) s') :
    wpAny (model X.prog X.w) X.A (eval (.Lambda params body scope pos) X.env) Q E s := by
  subst hq
  refine PySem.W.kla_eval hdef ?_
  have bP : s.heap.BuiltinsAt X.mg P := TB.bm.keeps I.bk
  have hP' : s.heap.get? P = some { cls := .none, data := .fields ps } := I.hok P _ hP
  cases hc : codeAmong pos ps.toList with
  | none =>
    refine PySem.W.kla_makeFunction (mg := X.mg) (c := c) (P := P) (ps := ps) (closure_ok hfree) I.ok.glob (I.mod.glob.keeps I.bk) hcode (TB.code.keeps I.bk) hP' ht hc TB.gP bP fun c' ctv h' tk hx hge hlt hrec htb => ?_
    obtain ⟨c2, oc, vs, t, e2, hoc, hd, hv⟩ := hrec
    cases e2
    have nC : H c' = none := I.hok.fresh hge
    have I1 := LamX.inv_table (t' := tk) (more := #[rawInt pos.line, rawInt pos.col, .ref c']) (h' := h'.push (PySem.W.kla_obj "<lambda>" (X.env.qual ++ "<lambda>") params body scope (cloFrom X.env.cells scope.names []) ((X.mg "__name__").getD .none) c' ctv)) I hP
      (fun b o hb e => Heap.get?_push_of_some _ (hx b o hb e)) (Heap.get?_push_of_some _ htb) hge ⟨oc, vs, t, Heap.get?_push_of_some _ hoc, hd, hv⟩
    have eL : (ps ++ #[rawInt pos.line, rawInt pos.col, .ref c']).toList = ps.toList ++ [rawInt pos.line, rawInt pos.col, .ref c'] := by simp
    refine h h'.objs.size c' ((X.mg "__name__").getD .none) ctv _ _ I1 (.inr ⟨nC, _, rfl, by rw [eL]; exact PySem.TriplesOk_snoc _ _ _ _ ht, fun p' cv hcv => ?_⟩) (Heap.get?_push_size _ rfl) upd_same
    rw [eL] at hcv
    exact LamX.among_app _ ht hcv
  | some cv =>
    obtain ⟨c', e, hco⟩ := ha pos cv hc
    subst e
    refine PySem.W.kla_makeFunctionHit (mg := X.mg) (c := c) (P := P) (ps := ps) (closure_ok hfree) I.ok.glob (I.mod.glob.keeps I.bk) hcode (TB.code.keeps I.bk) hP' ht hc bP fun ctv h' tk hx hsz => ?_
    have I1 : Inv X pins σ H { s with heap := h'.push (PySem.W.kla_obj "<lambda>" (X.env.qual ++ "<lambda>") params body scope (cloFrom X.env.cells scope.names []) ((X.mg "__name__").getD .none) c' ctv), toks := tk } := I.kept fun b o e => Heap.get?_push_of_some _ (hx b o e)
    exact h h'.objs.size c' ((X.mg "__name__").getD .none) ctv H _ I1 (.inl rfl) (Heap.get?_push_size _ rfl) hco
end
section
variable {X : Cx} {a : Expr} {C C1 : Ct} {ds : List D} {cs : List (Addr × Addr)} {params : Arguments} {scope : Scope} {g : Str} {p pos lpos kpos p1 p2 p3 p4 p5 : Pos} {x1 k : Nat}
theorem g_sortKey {c P : Addr} (hr : RoomG k X.A) (ht : TbIn cs X.H_0) (hcs : (c, P) ∈ cs) (TB : LamX.TabB X.base X.mg c P) (hcode : X.env.code = .ref c) (hq : X.env.qual ++ "<lambda>" = lamQ) (hok : srtK (ds.map keyD) = true) (hds : (ds.all fun d => tupB d && noL d) = true) (hm : X.mg "sorted" = none) (hml : X.mg "len" = none) (ha : GV X a C (.list ds) C1)
    (hg : Gl X "sorted" := by rfl) (he : starEach [a] X.env = (false, eval a X.env) :: starEach [] X.env := by rfl) (he2 : backTo pos (starEach [a] X.env) = (false, eval a X.env) :: backTo pos (starEach [] X.env) := by rfl) (hpl : (backTo pos (starEach [a] X.env)).any (·.1) = false := by rfl)
    (hdef : defaultsOf params X.env = ([], []) := by rfl) (hclo : cloFrom X.env.cells scope.names [] = [] := by rfl) (hfree : ∀ y ∈ scope.names, y.2 ≠ .free := by decide) (hcell : ∀ y ∈ scope.names, y.2 ≠ .cell := by decide)
    (hbind : ∀ (q : Str) (pm cv ctv : Value) (u : Value), bindArgs (PySem.W.kla_fn "<lambda>" q params (lenBody g p1 p2 p3 p4 p5 x1) scope [] pm cv ctv) ⟨[u], []⟩ = pure [(g, u)] := by intros; rfl)
    (hk : scope.kind = .function := by rfl) (hco : scope.isCoroutine = false := by rfl) (hge : scope.isGenerator = false := by rfl) (hgl : scope.names.lookup g = some .local := by rfl) (hl : scope.names.lookup ("len" : Str) = some .globalImplicit := by rfl) (hgd : (g == ("__debug__" : Str)) = false := by decide) :
    GL X (.Call (.Name "sorted" p) [a] [⟨some "key", .Lambda params (lenBody g p1 p2 p3 p4 p5 x1) scope lpos, kpos⟩] pos) C (isort (fun p q => leD (keyD p) (keyD q)) ds) C1 := fun F H σ S Q q => by
  intro pins s I
  refine wpAny_Call_Name_kw (ld_blt I hg hm boot_sorted ?_ (by decide) (by decide))
  refine PyProof.Rows.callWith_kw (thn ((pa_cons pe_wp pa_nil he).run pos pins s σ H (fun vs H1 => ∃ v F1, vs = [v] ∧ Stp F H (Own σ C) F1 H1 (Own σ C1) ∧ Sat F1 H1 σ C1 ∧ RT F1 σ C1 v (.list ds)) I (ha F H σ S _ fun v F1 H1 s1 S1 r1 => ⟨v, F1, rfl, s1, S1, r1⟩)) fun us s1 hh => ?_) he2 hpl rfl rfl
  obtain ⟨vs, H1, I1, rv, v, F1, rfl, st1, S1, r1⟩ := hh
  obtain ⟨ps, hP⟩ := ht.at I1 _ hcs
  obtain ⟨t1, t2⟩ := S1.tb.ok _ _ hP
  show wpAny _ _ (evalAll ((do let v ← eval (.Lambda params (lenBody g p1 p2 p3 p4 p5 x1) scope lpos) X.env; standAt pos; pure v) :: (backToKw pos (keywordEach [] X.env)).map (·.2))) _ _ s1
  refine wpAny_evalAll_cons (wpAny_bind (lam_make3 I1 TB hcode hq hP t1 (fun pos cv h => let ⟨c, h1, h2⟩ := t2 pos cv h; ⟨c, h1, S1.ex _ _ h2⟩) hdef (fun y hy e => absurd e (hfree y hy)) fun f c' pm ctv H2 s2 I2 hH hf hco2 => wpAny_bind (wpAny_standAt (wpAny_pure (wpAny_evalAll_nil ?_)))))
  have ex : ∃ F2, XS F1 H1 F2 H2 := by
    rcases hH with rfl | ⟨nC, more, rfl, u1, u2⟩
    · exact ⟨F1, .refl S1.ex⟩
    · have fC : F1 c' = none := S1.ex.free nC
      have nCP : c' ≠ P := fun z => by rw [z, hP] at nC; cases nC
      have nt : ∀ qs, LamX.CodeO c' lamQ ≠ .tbl qs := LamX.codeO_ne
      refine ⟨upd F1 c' (LamX.CodeO c' lamQ), Ext.new fC, fun b u h n => ?_, fun b u h => ?_, fun b u h n => ?_, fun b h => ?_, fun _ => ⟨(S1.tb.new fC nt).no, fun P' qs h => ?_⟩⟩
      · rw [upd_ne (ne_of_none h nC), upd_ne fun z => n ps (by rw [z, hP] at h; exact (Option.some.inj h).symm)]; exact h
      · by_cases e : b = c'
        · subst e; rw [upd_same] at h ⊢; exact h
        · rw [upd_ne e] at h ⊢
          rw [upd_ne fun z => S1.tb.no b ps (by rw [h, ← S1.ex b u h, z]; exact hP)]
          exact S1.ex b u h
      · rw [upd_ne (ne_of_none h nC)]; exact n
      · by_cases e : b = c'
        · subst e; exact nC
        · rw [upd_ne e] at h
          by_cases e2 : b = P
          · subst e2; rw [upd_same] at h; cases h
          · rw [upd_ne e2] at h; exact h
      · by_cases e : P' = c'
        · subst e; rw [upd_same] at h; exact absurd (Option.some.inj h) (nt qs)
        · rw [upd_ne e] at h
          by_cases e2 : P' = P
          · subst e2
            rw [upd_same] at h
            cases h
            refine ⟨u1, fun pos cv hc => ?_⟩
            rcases u2 pos cv hc with z | z
            · obtain ⟨d, h1, h2⟩ := t2 pos cv z
              exact ⟨d, h1, Ext.new fC _ _ h2⟩
            · exact ⟨c', z, upd_same⟩
          · rw [upd_ne e2] at h
            obtain ⟨w1, w2⟩ := S1.tb.ok _ _ h
            exact ⟨w1, fun pos cv hc => let ⟨d, h1, h2⟩ := w2 pos cv hc; ⟨d, h1, Ext.new fC _ _ h2⟩⟩
  obtain ⟨F2, x⟩ := ex
  have S2 := S1.xs x
  obtain ⟨l, vs, rfl, hl1, ra⟩ := ((r1.mono x.f).rd S2).list S2.ex
  obtain ⟨qs, rfl, rfl, hps⟩ := ra.pairs
  have hsq : SqL X.K H2 l (qs.map (·.1)) := .inl hl1
  obtain ⟨its, rvv, pl, hz⟩ := I2.list hsq
  rw [Vals.ref1 rv]
  have hz' : qs.length ≤ sizeLine := by rw [List.length_map] at hz; exact hz
  have e := each_of_vals rvv
  have hall := List.all_eq_true.mp hds
  have htup : ∀ p ∈ qs, (∃ es, p.2 = .tuple es) ∧ noL p.2 = true := fun p hp => by
    have h1 := Bool.and_eq_true_iff.mp (hall p.2 (List.mem_map.mpr ⟨p, hp, rfl⟩))
    refine ⟨?_, h1.2⟩
    cases h2 : p.2 with
    | tuple es => exact ⟨es, rfl⟩
    | _ => rw [h2] at h1; cases h1.1
  have emap : (qs.map (·.2)).map keyD = qs.map fun p => keyD p.2 := by rw [List.map_map]; rfl
  have fin : ∀ (out : List Value) (ep : Nat) (h' : Heap) (tk : Nat), (∀ b o, s2.heap.get? b = some o → h'.get? b = some o) → h'.get? (s2.heap.objs.size + 1) = some (seqObj "list" (List.toArray out) ep) → Vals ((isort (fun p q : V × D => leD (keyD p.2) (keyD q.2)) qs).map (·.1)) out →
      EP X pins σ Q (.ref (s2.heap.objs.size + 1)) { s2 with heap := h', toks := tk } := fun out ep h' tk kp he' ho => by
    have hlen : ((isort (fun p q : V × D => leD (keyD p.2) (keyD q.2)) qs).map (·.1)).length ≤ sizeLine := by
      rw [List.length_map, isort_length]; exact hz'
    have hn : H2 (s2.heap.objs.size + 1) = none := I2.hok.fresh (Nat.le_succ _)
    refine ⟨.ref _, upd H2 (s2.heap.objs.size + 1) (.lst _), I2.laid (t' := tk) kp (Nat.le_succ _) ⟨hlen, out, ep, ho, he'⟩, rfl, ?_⟩
    refine GL.of q (st1.trans x.stp) S2 hn ?_
    rw [← isort_map (le := fun p q : V × D => leD (keyD p.2) (keyD q.2)) (s := fun p q => leD (keyD p) (keyD q)) (·.2) (fun _ _ _ _ => rfl)]
    exact RA.of_pairs fun p hp => hps p (isort_mem.mp hp)
  have key : PySem.W.AllAlike (qs.map fun p => keyD p.2) ∧ PySem.W.Sortable (qs.map fun p => keyD p.2) ∧ ∀ p ∈ qs, (keyD p.2).depth ≤ 64 := by
    rw [emap] at hok
    unfold srtK at hok
    simp only [Bool.and_eq_true] at hok
    obtain ⟨⟨h1, h2⟩, h3⟩ := hok
    refine ⟨fun d hd d' hd' => List.all_eq_true.mp (List.all_eq_true.mp h1 d hd) d' hd', .inl fun d hd => ?_, fun p hp => of_decide_eq_true (List.all_eq_true.mp h3 _ (List.mem_map.mpr ⟨p, hp, rfl⟩))⟩
    have h4 := List.all_eq_true.mp h2 d hd
    cases d with
    | tuple es => cases es with
      | nil => cases h4
      | cons x r => exact ⟨x, r, rfl⟩
    | _ => cases h4
  obtain ⟨hal, hsr, hdep⟩ := key
  have hu : ∀ p ∈ qs, X.A.units + 2 + (keyD p.2).depth < cLine := fun p hp => by
    have h1 := hdep p hp
    have h2 := hr.un
    omega
  refine PySem.W.sorted_key_data (b := false) (R := fun u p => RelV p.1 u) (fun p : V × D => keyD p.2) pl.isList e hal hsr hz' hu (PyProof.Rows.ksk_s1 _ _) (fun _ => PyProof.Rows.ksk_l1 _ _) (fun _ => PyProof.Rows.ksk_t1 _ _) (fun u p hR hp h tk kp => ?_) fun out ep h' tk kp _ he' _ ho => fin out ep h' tk kp he' ?_
  · obtain ⟨⟨es, he1⟩, hn⟩ := htup p hp
    have hR2 := hps p hp
    obtain ⟨pv, pd⟩ := p
    obtain rfl : pd = .tuple es := he1
    cases hR2 with
    | tup h1 h2 =>
      have hR : RelV (V.ref _) u := hR
      obtain rfl : u = Value.ref _ := hR
      obtain ⟨its2, rv2, tp, tz⟩ := I2.tuple (SqT.of (K := X.K) (S2.ex _ _ h1))
      obtain ⟨as, rd⟩ := Dp.reads I2 (.tuple es) _ (.ref _) ((R.tup h1 h2).dp S2.ex) rfl
      have e0 := reads_nil _ rd hn
      subst e0
      obtain ⟨⟨oc, vs3, t3, hoc, hdc, hvc⟩, _, _⟩ := I2.hok c' _ hco2
      obtain ⟨mb, hb1, hb2⟩ := I2.mod.blt
      rw [hclo] at hf
      exact lam_turn (A := X.A.in1.in1) (s := s2) (by have := hr.dp; show X.A.depth < recursionLimit; omega) ((I2.mod.glob.keeps I2.bk).keeps kp) ⟨mb, (hb1.keeps I2.bk).keeps kp, hb2⟩ (I2.nolimit.keeps kp) hml (kp _ _ hf) ⟨c', oc, vs3, t3, rfl, kp _ _ hoc, hdc, hvc⟩ (fun u => hbind _ _ _ _ u) hk hco hge hcell hgl hl hgd
        (tp.keeps kp) (by rw [← rv2.length]; exact tz) (PyProof.Rows.Reads.keeps kp rd) (by rw [← rv2.length, h2.length])
  · have e2 : PySem.W.dataLe false (fun p : V × D => keyD p.2) = fun p q : V × D => leD (keyD p.2) (keyD q.2) := by funext p q; rfl
    have e3 := isort_eq (le := fun p q : V × D => leD (keyD p.2) (keyD q.2)) ⟨fun a b c => leD_total.trans _ _ _, fun a b => leD_total.total _ _⟩ qs
    rw [e2, ← e3] at ho
    exact vals_of_each ho
end
section
variable {X : Cx} {a : Expr} {C C1 : Ct} {cs : List (Addr × Addr)} {params : Arguments} {scope : Scope} {g : Str} {p pos lpos kpos p1 p2 p3 p4 p5 : Pos} {x1 k : Nat} {α : Type} {ε : α → D} {xs : List α}
def keyOk (ds : List D) : Bool := srtK (ds.map keyD) && ds.all fun d => tupB d && noL d
theorem t_sortKey {c P : Addr} (hr : RoomG k X.A) (ht : TbIn cs X.H_0) (hcs : (c, P) ∈ cs) (TB : LamX.TabB X.base X.mg c P) (hcode : X.env.code = .ref c) (hq : X.env.qual ++ "<lambda>" = lamQ) (hok : gd (keyOk (xs.map ε)) = some ()) (hm : X.mg "sorted" = none) (hml : X.mg "len" = none) (ha : GV X a C (eL ε xs) C1)
    (hg : Gl X "sorted" := by rfl) (he : starEach [a] X.env = (false, eval a X.env) :: starEach [] X.env := by rfl) (he2 : backTo pos (starEach [a] X.env) = (false, eval a X.env) :: backTo pos (starEach [] X.env) := by rfl) (hpl : (backTo pos (starEach [a] X.env)).any (·.1) = false := by rfl)
    (hdef : defaultsOf params X.env = ([], []) := by rfl) (hclo : cloFrom X.env.cells scope.names [] = [] := by rfl) (hfree : ∀ y ∈ scope.names, y.2 ≠ .free := by decide) (hcell : ∀ y ∈ scope.names, y.2 ≠ .cell := by decide)
    (hbind : ∀ (q : Str) (pm cv ctv : Value) (u : Value), bindArgs (PySem.W.kla_fn "<lambda>" q params (lenBody g p1 p2 p3 p4 p5 x1) scope [] pm cv ctv) ⟨[u], []⟩ = pure [(g, u)] := by intros; rfl)
    (hk : scope.kind = .function := by rfl) (hco : scope.isCoroutine = false := by rfl) (hge : scope.isGenerator = false := by rfl) (hgl : scope.names.lookup g = some .local := by rfl) (hl : scope.names.lookup ("len" : Str) = some .globalImplicit := by rfl) (hgd : (g == ("__debug__" : Str)) = false := by decide) :
    GL X (.Call (.Name "sorted" p) [a] [⟨some "key", .Lambda params (lenBody g p1 p2 p3 p4 p5 x1) scope lpos, kpos⟩] pos) C ((isort (fun a b => leD (keyD (ε a)) (keyD (ε b))) xs).map ε) C1 := by
  have h := Bool.and_eq_true_iff.mp (gd_ok hok)
  rw [isort_map (s := fun p q => leD (keyD p) (keyD q)) ε (fun _ _ _ _ => rfl)]
  exact g_sortKey hr ht hcs TB hcode hq h.1 h.2 hm hml ha hg he he2 hpl hdef hclo hfree hcell hbind hk hco hge hgl hl hgd
end
end G
/-! G27: {k: v for x in xs} with keys that are nested tuples, without a test. -/
namespace G
open PySem PySem.Spec L2 PyProof.Rows
section
variable {X : Cx}
/-- a turn's end: the key, the value, the entry -/
abbrev NdEnd (P : Program) (w : World) (d0 : Addr) (y z : V) (Hq : Hp) (nx : Hp → Prop) : Prop := ∃ (es : NEs) (b : Addr) (k : NestedKey) (F : Hp) (kvs : List (NestedKey × D)), y = .ref b ∧ Ext F Hq ∧ Hq d0 = some (NkO P w d0 es) ∧ RN F es kvs ∧ R F (.ref b) k.data ∧ k.depth ≤ 8 ∧ es.length < sizeLine ∧
  ∀ r, RelV z r → nx (upd Hq d0 (NkO P w d0 (storedH es k b r)))
def tNDc (P : Program) (w : World) (wi : TI) (g : TG) (tk tv : TE) (hs : List Nat) : TE := fun σ H Q => wi σ H fun J H1 => ∀ d0, H1 d0 = none → ∃ W : Nat → Nat → Hp → Prop, (∃ m, W 0 m (upd H1 d0 (NkO P w d0 []))) ∧ ∀ i m Hi, W i m Hi →
  (J.stop i Hi ∧ Q (.ref d0) Hi) ∨ (J.go i Hi ∧ ∃ nx : Hp → Prop, (∀ Hj, nx Hj → ∃ m', m' < m ∧ W (i + 1) m' Hj) ∧ ∀ x Hj, J.yld i Hi x Hj → g x (wipe σ hs) Hj fun τ Hk => wipe τ hs = wipe σ hs ∧
    tk τ Hk fun y Hl => tv τ Hl fun z Hm => NdEnd P w d0 y z Hm nx)
theorem ndc_core {n0 : Nat} {pp : List (Addr × Obj)} {sA : Shared} {σ : L2.St} {H : Hp} {Q : VK} {kx vx tg iter : Expr} {scope : Scope} {own : List (Str × Nat)} {p1 p2 : Pos} {wi : TI} {g : TG} {tk tv : TE} {use : Option (Value → Sem Unit)} {Qf : Value → Shared → Prop}
    (hrm : RoomG n0 X.A) (calm : X.calm = true) (hN : X.N.Nodup) (I : Inv X pp σ H sA) (hi : PI X tg iter wi) (bok : BlkOk X.N X.env.scope scope own) (hg : ∀ B, PG (bx X scope B) tg g) (hk : ∀ B, PE (bx X scope B) kx tk) (hv : ∀ B, PE (bx X scope B) vx tv) (hf : ∀ x, foldedSetIterable iter X.env x = pure x)
    (h : tNDc X.prog X.w wi g tk tv (own.map (·.2)) σ H Q) (hEnd : ∀ d0 C sB m HB, Inv X pp σ HB sB → Q (.ref d0) HB → sB.heap.Ns C m → FpOk X pp HB C → compPost (model X.prog X.w) X.A X.xe use Qf (.ref d0) C (.ok .next) sB) :
    wpAny (model X.prog X.w) X.A (comprehension (.DictComp kx vx [⟨tg, iter, [], 0⟩] scope p1) scope X.env p2 newDict false (eval iter X.env) use) Qf X.xe sA := by
  have fr : ∀ y ∈ scope.names, y.2 = .free → ∃ c, X.env.cells.lookup y.1 = some c := fun y hy e => (bok.free y hy e).elim (fun z => I.ok.has _ (.inl z)) fun z => I.ok.has _ (.inr z)
  refine wpAny_comprehension_free (use := use) rfl hf (closure_ok fr) bok.kind (fun y hy e => by rw [bok.uniq y hy, e]) (thn (hi.run pp sA σ H _ I h) fun _ s1 hx => thn hx fun _ s2 h2 => ?_)
  obtain ⟨it, fp, tn, J, H2, rfl, I2, T, st2, f2, q⟩ := h2
  refine wpAny_newObj_type (newEnv_comp ?_)
  obtain ⟨d0, hd0⟩ : ∃ d0, d0 = s2.heap.objs.size := ⟨_, rfl⟩
  rw [← hd0]
  have nd0 : H2 d0 = none := I2.hok.fresh (Nat.le_of_eq hd0.symm)
  obtain ⟨W, ⟨m0, w0⟩, turn⟩ := q d0 nd0
  -- the dict is made
  have I3 := Inv.nnew I2
  rw [← hd0] at I3
  revert I3
  generalize eS : ({ s2 with heap := s2.heap.push { cls := .type "dict", data := .dict #[] } } : Shared) = s3
  intro I3
  have e3 : s3.heap = s2.heap.push { cls := .type "dict", data := .dict #[] } := by rw [← eS]
  have f3 : ∀ b ∈ fp, FpOk X pp (upd H2 d0 (NkO X.prog X.w d0 [])) b ∧ b < s3.heap.objs.size := fun b hb => by
    obtain ⟨o, e, _⟩ := T.obj _ _ st2 b hb
    have lt := Heap.lt_size e
    exact ⟨⟨by rw [upd_ne (by rw [hd0]; exact Nat.ne_of_lt lt)]; exact (f2 b hb).1, (f2 b hb).2⟩, by rw [e3, Heap.size_push]; exact Nat.lt_succ_of_lt lt⟩
  have st3 : tn 0 s3.heap := T.keep _ _ _ st2 fun b _ o e => by rw [e3]; exact Heap.get?_push_of_some _ e
  obtain ⟨H3, eH⟩ : ∃ H3, H3 = upd H2 d0 (NkO X.prog X.w d0 []) := ⟨_, rfl⟩
  rw [← eH] at I3 w0 f3
  have I4 := block_start I3 bok hN f3
  obtain ⟨cl, ecl⟩ : ∃ cl, cl = cellsFrom (s3.heap.objs.size + 1) scope.names (cloFrom X.env.cells scope.names []) := ⟨_, rfl⟩
  rw [← ecl] at I4 ⊢
  let B : Blk := ⟨s3, H3, s3.heap.objs.size, cl, fp⟩
  show codeAny _ _ (.compStart (.DictComp kx vx [⟨tg, iter, [], 0⟩] scope p1) 0 (.ref it) (.ref d0) (compEnvC scope cl s3.heap.objs.size X.env)) (compPost (model X.prog X.w) X.A X.xe use Qf (.ref d0) s3.heap.objs.size) { s3 with heap := pushCells (s3.heap.push { cls := .type "dict", data := .dict #[] }) scope.names }
  generalize e4 : ({ s3 with heap := pushCells (s3.heap.push { cls := .type "dict", data := .dict #[] }) scope.names } : Shared) = s4 at I4 ⊢
  have st4 : tn 0 s4.heap := T.keep _ _ _ st3 fun b _ o e => by rw [← e4]; exact pushCells_keeps _ _ _ _ (Heap.get?_push_of_some _ e)
  have calmB : ∀ {τ : L2.St} {Hx : Hp} {sx : Shared}, Inv (bx X scope B) [] τ Hx sx → (∀ b ∈ fp, Hx b = none) → ∀ b ∈ fp, FpOk (bx X scope B) [] Hx b := fun J' hn b hb =>
    ⟨hn b hb, (J'.ok.exf b hb).1, J'.ok.exfs b hb, .inl hb, fun x c e => (J'.ok.exf b hb).2 x c e, fun p hp => by cases (show p ∈ ([] : List (Addr × Obj)) from hp)⟩
  have loop : codeAny (model X.prog X.w) X.A (.compLoop (.DictComp kx vx [⟨tg, iter, [], 0⟩] scope p1) 0 (.ref it) (.ref d0) (compEnvC scope cl s3.heap.objs.size X.env)) (compPost (model X.prog X.w) X.A X.xe use Qf (.ref d0) s3.heap.objs.size) s4 := by
    refine compLoop_anyD (fun n sx => ∃ i Hx, Inv (bx X scope B) [] (wipe σ (own.map (·.2))) Hx sx ∧ tn i sx.heap ∧ (∀ b ∈ fp, Hx b = none) ∧ W i n Hx) ?_ m0 ⟨0, H3, I4, st4, fun b hb => (f3 b hb).1.1, w0⟩
    rintro n s5 ⟨i, H5, I5, st5, n5, w5⟩
    rcases turn i n H5 w5 with ⟨stop, qq⟩ | ⟨go, nx, hnx, step⟩
    · refine thnF (T.done (bx X scope B) rfl rfl rfl calm i [] s5 _ H5 (fun _ _ => False) I5 (calmB I5 n5) st5 stop) fun r s6 ⟨hr, I6⟩ => ?_
      subst hr
      have I7 : Inv X pp σ H5 s6 := I3.call' (ch := fp) I6.os I6.base I6.hok I6.bare fun b hb => ⟨(f3 b hb).1.2.2.2.1, (f3 b hb).1.2.1, (f3 b hb).1.2.2.2.2.1, (f3 b hb).1.2.2.2.2.2⟩
      obtain ⟨m, ns, _⟩ := I6.loc
      exact hEnd d0 s3.heap.objs.size s6 m H5 I7 qq ns (I3.fpOk (Nat.le_refl _) I6.free)
    · refine thnF (T.item (bx X scope B) rfl rfl rfl calm i [] s5 _ H5 (fun _ _ => False) I5 (calmB I5 n5) st5 go) fun r s6 ⟨u, hr, h6⟩ => ?_
      subst hr
      refine thnF h6 fun _ s7 ⟨x, H7, I7, r7, y7, st7, n7⟩ => ?_
      refine thnF ((hg B).run _ s7 _ H7 x u _ (I7.pinned (calmB I7 n7) (T.obj _ _ st7)) r7 (step x H7 y7)) fun _ s8 ⟨τ, H8, I8, w8, q8⟩ => ?_
      refine thnF ((pts_nil (X := bx X scope B)).run _ s8 τ H8 (fun b Hb => b = true ∧ Hb = H8) I8 ⟨rfl, rfl⟩) fun b s9 ⟨H9, I9, eb, e9⟩ => ?_
      subst eb e9
      refine thnF ((hk B).run _ s9 τ _ _ I9 q8) fun zk sA ⟨yk, HA, IA, rA, qA⟩ => ?_
      refine thnF ((hv B).run _ sA τ HA _ IA qA) fun zv sB ⟨yv, HB, IB, rB, es, b, k, F, kvs, ek, eF, gD, rk, rb, dk, lz, fin⟩ => ?_
      subst ek
      obtain rfl : zk = Value.ref b := rA
      obtain ⟨z1, z2, z3⟩ := nk_full IB.hok eF gD rk
      refine wpAny_dictSet_heap (knd := nestedKind X.prog X.w) (hsz := z2) (show X.A.units + 8 < cLine by have := hrm.un; omega) ⟨is_of (v := V.ref b) (u := Value.ref b) IB.hok (rb.mono eF) (show RelV (V.ref b) (Value.ref b) from rfl), dk⟩ z3 fun h' dd sb => ?_
      have hle := storedH_len es k b zv
      have ex : ∃ q, h'.get? d0 = some q := let ⟨q, _, _, hq, _⟩ := dd; ⟨q, hq⟩
      have IC := d_write (t' := sB.toks + (nestedKind X.prog X.w).draws k) IB (by rw [gD]; exact True.intro) sb ex (nk_new z1 (by have := storedH_len es k b zv; omega) dd)
      obtain ⟨m', hm, w'⟩ := hnx _ (fin _ rB)
      have pin : ∀ b ∈ fp, ∀ o, s7.heap.get? b = some o → _ ∧ _ := fun b hb o e => let z := IC.pin (b, o) (List.mem_append_right _ (List.mem_append_right _ (mem_pinsAt hb e))); And.intro z.1 z.2.1
      refine ⟨m', hm, i + 1, _, (IC.unpinned (pins := [])).weak (by rw [← wipe_length τ (own.map (·.2)), w8]) (fun j v e => ?_), T.keep _ _ _ st7 fun b hb o e => (pin b hb o e).1, fun b hb => ?_, w'⟩
      · rw [← w8] at e
        exact (wipe_some e).1
      · obtain ⟨o, e, _⟩ := T.obj _ _ st7 b hb
        exact (pin b hb o e).2
  exact codeAny_compStart_dict loop (T.self X.A 0 _ _ _ st4 loop)
/-- name = {..} on one line, the name a local -/
theorem ps_setNDc {n0 i : Nat} {y : Str} {py p1 sp : Pos} {kx vx tg iter : Expr} {scope : Scope} {own : List (Str × Nat)} {wi : TI} {g : TG} {tk tv : TE} (hrm : RoomG n0 X.A) (calm : X.calm = true) (hN : X.N.Nodup) (hy : X.N[i]? = some y) (hyl : X.env.scope.names.lookup y = some .local)
    (sw : swapsWith (.DictComp kx vx [⟨tg, iter, [], 0⟩] scope p1) (some (.Name y py)) sp.line X.env = pure true) (hi : PI X tg iter wi) (bok : BlkOk X.N X.env.scope scope own) (hg : ∀ B, PG (bx X scope B) tg g) (hk : ∀ B, PE (bx X scope B) kx tk) (hv : ∀ B, PE (bx X scope B) vx tv) (hf : ∀ x, foldedSetIterable iter X.env x = pure x) :
    PS X (.Assign [.Name y py] (.DictComp kx vx [⟨tg, iter, [], 0⟩] scope p1) sp) (tAsg (tNDc X.prog X.w wi g tk tv (own.map (·.2))) (gName i)) := by
  refine ⟨fun pp sA σ H D' I h => ?_⟩
  rw [exec_Assign_Name_used _ _ _ _ sw]
  have h : tNDc X.prog X.w wi g tk tv (own.map (·.2)) σ H (fun x H1 => gName i x σ H1 D'.nx) := h
  refine wpAny_bind (wpAny_standAt (wpAny_bind ?_))
  show wpAny _ X.A (do let _ ← comprehension (.DictComp kx vx [⟨tg, iter, [], 0⟩] scope p1) scope X.env (firstIterPos [⟨tg, iter, [], 0⟩] p1) newDict false (eval iter X.env) (some (assign (.Name y py) X.env))) _ _ sA
  refine wpAny_bind (thn (ndc_core (Qf := fun _ sB => SP X pp D' .next sB) hrm calm hN I hi bok hg hk hv hf h fun d0 C sB m HB IB q ns fp => ?_) fun _ sB hq => wpAny_pure (wpAny_pure hq))
  show wpAny _ _ (assign (.Name y py) X.env (.ref d0)) _ _ _
  obtain ⟨f0, f1, f2, f3, f4, f5⟩ := fp
  refine wpAny_assign_Name (store_ok2 (v := V.ref d0) IB hN hy (.inl hyl) rfl (fun sC IC ⟨a, sb, ha⟩ => ⟨m, ns.sameBut sb ?_, fun hD sbD => ⟨_, HB, IC.turned (t' := sC.toks) (fun b o hb e => (sbD.2 b hb).trans e) f0 f1 f3 f4 f5, q⟩⟩) (.inr hyl))
  rcases ha with z | z
  · rw [z]; exact f1
  · exact fun e => f4 y a z e.symm
theorem sw_trueD {kx vx : Expr} {gs : List Comprehension} {scope : Scope} {p1 py : Pos} {y : Str} {l : Nat} {env : Env} (hk : env.scope.kind = .function) (hy : env.scope.names.lookup y = some .local) (hl : (py.line == p1.line) = true)
    (ha : (scope.names.any fun (n, k) => n == y && (k == .local || k == .cell)) = false) : swapsWith (.DictComp kx vx gs scope p1) (some (.Name y py)) l env = pure true := by
  have k1 : env.kindOf y = some .local := hy
  have k2 : env.blockKind = .function := by unfold Env.blockKind; rw [hk]; rfl
  unfold swapsWith
  simp only [k1, k2, ha, Expr.pos, hl]
  rfl
end
section
variable {X : Cx} {C C1 : Ct} {tg iter kx vx : Expr} {scope : Scope} {vs : List Nat}
def TurnD (X : Cx) (scope : Scope) (tg kx vx : Expr) (vs : List Nat) (C : Ct) (d dk dv : D) : Prop := ∃ is Cx Cx1 Cx2, (∀ B, GG (bx X scope B) tg is d (hid C vs) Cx) ∧ (∀ i ∈ is, i ∈ vs) ∧ (∀ B, GE (bx X scope B) kx Cx dk Cx1) ∧ (∀ B, GE (bx X scope B) vx Cx1 dv Cx2) ∧ hid Cx2 vs = hid C vs
theorem turn_d {is : List Nat} {Cx Cx1 Cx2 : Ct} {d dk dv : D} (hg : ∀ B, GG (bx X scope B) tg is d (hid C vs) Cx) (hk : ∀ B, GE (bx X scope B) kx Cx dk Cx1) (hv : ∀ B, GE (bx X scope B) vx Cx1 dv Cx2) (hs : ∀ i ∈ is, i ∈ vs := by decide) (hh : hid Cx2 vs = hid C vs := by rfl) : TurnD X scope tg kx vx vs C d dk dv :=
  ⟨is, Cx, Cx1, Cx2, hg, hs, hk, hv, hh⟩
def dcF {α κ β : Type} [DecidableEq κ] (f : α → Option (κ × β)) : List α → List (κ × β) → Option (List (κ × β)) := forF fun x acc => (f x).bind fun kv => some (dput acc kv.1 kv.2)
theorem nd_main {α κ β : Type} [DecidableEq κ] {xs : List α} {ε : α → D} {ε' : κ → D} {η : β → D} {nk : κ → NestedKey} {m : Nat} {f : α → Option (κ × β)} {kvs : List (κ × β)} (hf : dcF f xs [] = some kvs) (hz : xs.length ≤ sizeLine) (hn : NKE ε' nk m) (hm : m ≤ 8) (hkt : ∀ k, ∃ ks, nk k = .tup ks)
    (hi : GI X tg iter C (xs.map ε) C1) (hno : NoOwn C1 vs) (hb : ∀ x ∈ xs, ∀ kv, f x = some kv → TurnD X scope tg kx vx vs C1 (ε x) (ε' kv.1) (η kv.2))
    {F H : Hp} {σ : L2.St} (S : Sat F H σ C) {Q : VK} (q : ∀ p es F' H', Stp F H (Own σ C) F' H' (Own σ C1) → Sat F' H' σ C1 → H p = none → H' p = some (NkO X.prog X.w p es) → RN F' es (eN nk η kvs) → F' p = none → ¬ Own σ C1 p → Q (.ref p) H') :
    tNDc X.prog X.w (wpI X tg iter) (wpGF (bx X scope) tg) (wpEF (bx X scope) kx) (wpEF (bx X scope) vx) vs σ H Q := by
  refine hi F H σ S _ fun J F1 H1 s1 S1 Y => ?_
  intro L hL
  have hL0 : H L = none := s1.t L hL
  have yl : (xs.map ε).length = xs.length := List.length_map ..
  refine ⟨fun i mm H2 => mm = xs.length - i ∧ i ≤ xs.length ∧ ∃ acc es F2, dcF f (xs.drop i) acc = some kvs ∧ es.length ≤ i ∧ H2 L = some (NkO X.prog X.w L es) ∧ RN F2 es (eN nk η acc) ∧ F2 L = none ∧ (¬ Own σ C1 L) ∧
    Stp F1 H1 (Own σ C1) F2 H2 (Own σ C1) ∧ Sat F2 H2 σ C1, ?_, ?_⟩
  · have x : XS F1 H1 F1 (upd H1 L (NkO X.prog X.w L [])) := XS.fresh S1.ex hL nk_nt
    exact ⟨_, rfl, Nat.zero_le _, [], [], F1, hf, Nat.le_refl _, upd_same, .nil, S1.ex.free hL, own_new S1 hL, x.stp, S1.xs x⟩
  rintro i mm H2 ⟨rfl, hil, acc, es, F2, hmm, hes, hL2, ra, fL, nL, st, S2⟩
  by_cases hlt : i < xs.length
  · refine .inr ⟨Y.go i H2 F2 st.e S2.ex (by rw [yl]; exact hlt), ?_⟩
    rw [List.drop_eq_getElem_cons hlt] at hmm
    unfold dcF forF at hmm
    cases hfx : f xs[i] with
    | none => simp only [hfx] at hmm; cases hmm
    | some kv =>
      simp only [hfx] at hmm
      have hmm : dcF f (xs.drop (i + 1)) (dput acc kv.1 kv.2) = some kvs := hmm
      refine ⟨fun H' => ∃ es' F', es'.length ≤ i + 1 ∧ H' L = some (NkO X.prog X.w L es') ∧ RN F' es' (eN nk η (dput acc kv.1 kv.2)) ∧ F' L = none ∧ (¬ Own σ C1 L) ∧ Stp F1 H1 (Own σ C1) F' H' (Own σ C1) ∧ Sat F' H' σ C1, ?_, ?_⟩
      · rintro H' ⟨es', F', e2, e3, e4, e5, e6, e7, e8⟩
        exact ⟨xs.length - (i + 1), by omega, rfl, hlt, _, es', F', hmm, e2, e3, e4, e5, e6, e7, e8⟩
      · intro v H' y
        obtain ⟨F3, x3, r3⟩ := Y.yld i H2 F2 v H' st.e S2.ex y
        have r3 := r3 (ε xs[i]) (by rw [List.getElem?_map, List.getElem?_eq_getElem hlt]; rfl)
        have S3 := (S2.xs x3).hid (vs := vs)
        obtain ⟨is, Cx, Cx1, Cx2, hg, his, hk, hv, hh⟩ := hb _ (List.getElem_mem hlt) kv hfx
        have st3 : Stp F1 H1 (Own σ C1) F3 H' (Own (wipe σ vs) (hid C1 vs)) := (st.trans x3.stp).sub fun a o => own_hid1 o
        have nL3 : ¬ Own (wipe σ vs) (hid C1 vs) L := fun o => nL (own_hid1 o)
        have hL3 : H' L = some (NkO X.prog X.w L es) := x3.h _ _ hL2 nk_nt
        have fL3 : F3 L = none := x3.n _ _ hL2 fL
        intro B
        refine hg B F3 H' (wipe σ vs) v S3 r3 _ fun σ4 u4 s4 S4 => ?_
        have ew := upd_wipe u4 his
        refine ⟨ew, ?_⟩
        intro B'
        refine hk B' _ _ σ4 S4 _ fun ky F5 H5 s5 S5 r5 => ?_
        intro B''
        refine hv B'' F5 H5 σ4 S5 _ fun vy F6 H6 s6 S6 r6 => ?_
        have sAll := (s4.trans s5).trans s6
        obtain ⟨g1, g2, g3⟩ := sAll.k L _ hL3 nL3
        have g1 := g1 nk_nt
        have toOwn : ∀ a, Own σ C1 a → Own σ4 Cx2 a := fun a o => by
          have o' := (Own.hid (vs := vs) hno).mpr o
          rw [← hh, ← ew] at o'
          exact own_hid1 o'
        have S7 := S6.hid (vs := vs)
        rw [ew, hh] at S7
        have e26 : Ext F2 F6 := x3.f.trans sAll.e
        have nL6 : ¬ Own σ C1 L := fun o => g2 (toOwn L o)
        have st6 : Stp F1 H1 (Own σ C1) F6 H6 (Own σ C1) := (st3.trans sAll).sub toOwn
        have S8 : Sat F6 H6 σ C1 := back_to hno S7 sAll.e S2.len fun j hj s hs => (S2.sl j s hs).keep (hno j hj s hs) e26
        have K := KD.of hn hm kv.1 (hkt kv.1)
        obtain ⟨b, rfl, rb⟩ := K.ref r5
        have hlen : es.length < sizeLine := by omega
        refine ⟨es, b, nk kv.1, F6, eN nk η acc, rfl, S6.ex, g1, ra.mono e26, rb.mono s6.e, K.2.1, hlen, fun r rr => ?_⟩
        have hp := (ra.mono e26).put K.2.1 (rb.mono s6.e) rr r6
        rw [ndput_map hn] at hp
        exact ⟨_, F6, by have := storedH_len es (nk kv.1) b r; omega, upd_same, hp, g3 fL3, nL6, st6.other hL nk_nt, S8.other (g3 fL3) nL6 nk_nt⟩
  · have e : i = xs.length := by omega
    subst e
    rw [List.drop_length] at hmm
    cases hmm
    refine .inl ⟨?_, ?_⟩
    · rw [← yl]
      exact Y.stop H2 F2 st.e S2.ex
    · exact q L es F2 H2 (s1.trans st) S2 hL0 hL2 ra fL nL
variable {own : List (Str × Nat)} {rest : List Stmt} {P : Out → Prop}
theorem gs_setNDc {n0 : Nat} {α κ β : Type} [DecidableEq κ] (i : Nat) {y : Str} {py p1 sp : Pos} {xs : List α} {ε : α → D} {ε' : κ → D} {η : β → D} {nk : κ → NestedKey} {m : Nat} {f : α → Option (κ × β)} {kvs : List (κ × β)} (hf : dcF f xs [] = some kvs) (hz : xs.length ≤ sizeLine) (hn : NKE ε' nk m) (hrm : RoomG n0 X.A) (calm : X.calm = true) (hN : X.N.Nodup) (bok : BlkOk X.N X.env.scope scope own)
    (hi : GI X tg iter C (xs.map ε) C1) (hno : NoOwn C1 (own.map (·.2))) (hb : ∀ x ∈ xs, ∀ kv, f x = some kv → TurnD X scope tg kx vx (own.map (·.2)) C1 (ε x) (ε' kv.1) (η kv.2)) (hr : GS X rest (C1.set i (.ob (nkS X.prog X.w (eN nk η kvs)))) P)
    (hm : m ≤ 8 := by decide) (hkt : ∀ k, ∃ ks, nk k = .tup ks := by exact fun k => ⟨_, rfl⟩) (hl : i < C1.length := by exact Nat.le_of_ble_eq_true rfl) (hy : X.N[i]? = some y := by rfl) (hyl : X.env.scope.names.lookup y = some .local := by rfl)
    (sw : swapsWith (.DictComp kx vx [⟨tg, iter, [], 0⟩] scope p1) (some (.Name y py)) sp.line X.env = pure true := by first | exact sw_trueD rfl rfl rfl (by decide +kernel)) (hf : ∀ x, foldedSetIterable iter X.env x = pure x := by intro _; rfl) :
    GS X (.Assign [.Name y py] (.DictComp kx vx [⟨tg, iter, [], 0⟩] scope p1) sp :: rest) C P := fun F H σ D' S q => by
  refine wpSs_of (pss_cons (ps_setNDc hrm calm hN hy hyl sw pi_wp bok (fun B => pg_wpF) (fun B => pe_wpF) (fun B => pe_wpF) hf) pss_wp) ?_
  show tNDc X.prog X.w (wpI X tg iter) (wpGF (bx X scope) tg) (wpEF (bx X scope) kx) (wpEF (bx X scope) vx) (own.map (·.2)) σ H (fun x H1 => gName i x σ H1 (wpSs X rest D'))
  refine nd_main ‹_› hz hn hm hkt hi hno hb S fun p es F1 H1 s1 S1 h1 h2 h3 h4 h5 => ?_
  exact hr F1 H1 _ D' (S1.asg hl ⟨p, _, rfl, h2, ⟨es, rfl, h3⟩, h4⟩ fun _ a e => by cases e; exact own_any h5) fun o ho => (q o ho).step (s1.ol h1)
end
end G
/-! G28: data that turn out to be tuples, texts. -/
namespace G
open PySem L2 PyProof.Rows
def toTD : D → Option (List D)
  | .tuple ds => some ds
  | _ => none
theorem toTD_eq {d : D} {ds : List D} (h : toTD d = some ds) : d = eT eD ds := by
  cases d with
  | tuple es => cases h; exact congrArg PyData.tuple (List.map_id _).symm
  | _ => cases h
def to2 : List D → Option (Int × List Int)
  | [.int m, d] => (toW d).map fun w => (m, w)
  | _ => none
theorem to2_eq {l : List D} {p : Int × List Int} (h : to2 l = some p) : eT eD l = eP PyData.int (eT PyData.int) p := by
  match l, h with
  | [.int m, d], h =>
    obtain ⟨w, hw, rfl⟩ := Option.map_eq_some_iff.mp h
    rw [toW_eq hw]; rfl
section
variable {X : Cx} {e : Expr} {C C1 : Ct} {d : D}
theorem GE.toTD {ds : List D} (h : toTD d = some ds) (g : GE X e C d C1) : GE X e C (eT eD ds) C1 := by
  rw [← toTD_eq h]; exact g
theorem GE.to2 {l : List D} {p : Int × List Int} (h : to2 l = some p) (g : GE X e C (eT eD l) C1) : GE X e C (eP PyData.int (eT PyData.int) p) C1 := by
  rw [← to2_eq h]; exact g
end
end G
/-! G29: texts joined and cut; tests that draw. -/
namespace G
open PySem L2 PyProof.Rows
section
variable {X : Cx} {a b : Expr} {C C1 C2 : Ct} {pos p2 : Pos} {i j z : Str}
theorem Rd1.txt {F H : Hp} {v : V} (r : Rd1 F H v (.str i)) : v = .str i := by
  rcases r with r | ⟨_, _, _, _, e, _⟩
  · cases r; rfl
  · cases e
theorem v_addS (h : szOk (i.length + j.length) = some ()) : V2 (fun x y H Q => ∃ i j, x = .str i ∧ y = .str j ∧ i.length + j.length ≤ sizeLine ∧ Q (.str (i ++ j)) H) (.str i) (.str j) (.str (i ++ j)) :=
  fun F H v1 v2 e r1 r2 Q q => ⟨i, j, r1.txt, r2.txt, szOk_le h, q _ F H (.refl e) (.str _)⟩
theorem g_addS (h : szOk (i.length + j.length) = some ()) (ha : GE X a C (.str i) C1) (hb : GE X b C1 (.str j) C2) : GE X (.BinOp a .Add b pos) C (.str (i ++ j)) C2 := g_opE op_add_str ha hb.gv (v_addS h)
theorem g_slS {lo hi : Option Expr} {kl kh : Option Int} (hz : szOk z.length = some ()) (ha : GE X a C (.str z) C1) (hl : GO X C1 lo kl) (hh : GO X C1 hi kh) : GE X (.Subscript a (.Slice lo hi none p2) pos) C (.str (cutS z kl kh)) C1 := fun F H σ S Q q => by
  refine wpE_of (pe_slice sl_str pe_wp po_oo po_oo) ?_
  refine ha F H σ S _ fun v F1 H1 s1 S1 r1 => hl.run S1 fun F2 H2 s2 S2 => hh.run S2 fun F3 H3 s3 S3 => ?_
  exact ⟨z, Rd1.txt (F := F1) (H := H1) (.inl r1), szOk_le hz, q _ F3 H3 ((s1.trans s2).trans s3) S3 (.str _)⟩
end
section
variable {X : Cx} {a b : Expr} {es : List Expr} {C : Ct} {pos : Pos} {q : Bool} {S : Type} {B : Option (Bool × S)} {s0 : S} {v : Bool × S} {Cs : S → Ct}
/-- a test that goes on with a state, if the first part holds -/
def oandP (p : Bool) (B : Option (Bool × S)) (s0 : S) : Option (Bool × S) := if p then B else some (false, s0)
theorem w_andP (h : oandP q B s0 = some v) (h0 : C = Cs s0) (ha : GT X a C q C) (hb : B = some v → GW X (.BoolOp .And (b :: es) pos) C v.1 (Cs v.2)) : GW X (.BoolOp .And (a :: b :: es) pos) C v.1 (Cs v.2) := by
  refine gw_and ha (fun hq => ?_) fun hq => ?_
  · subst hq; exact hb h
  · subst hq; cases h; exact ⟨rfl, h0.symm⟩
end
theorem toS_eq {d : D} {s : Str} (h : toS d = some s) : d = PyData.str s := by
  cases d with
  | str s => cases h; rfl
  | _ => cases h
theorem toI_eq {d : D} {i : Int} (h : toI d = some i) : d = PyData.int i := by
  cases d with
  | int i => cases h; rfl
  | _ => cases h
end G
namespace T
open PySem L2 PyProof.Rows G

def top (i : Nat) : Stmt := PySem.Challenge.pw_wheelsparted_k10_split_papers_judged.main.body.getD i (.Pass ⟨0, 0, 0, 0⟩)
theorem eD_map (ds : List D) : ds.map eD = ds := by rw [show (eD : D → D) = id from rfl, List.map_id]
theorem pair_of {α β : Type} {x : Option (α × β)} {v : α × β} (h : x = some v) : x = some (v.1, v.2) := h
theorem tbn {H : Hp} : TbIn [] H := fun _ h => nomatch h
theorem onR_inl {S ρ τ : Type} {s : S} {f : S → Option τ} {g : ρ → Option τ} {t : τ} (h : onR (.inl s) f g = some t) : f s = some t := h
theorem onR_inr {S ρ τ : Type} {r : ρ} {f : S → Option τ} {g : ρ → Option τ} {t : τ} (h : onR (.inr r) f g = some t) : g r = some t := h
section
variable {cs : List (Addr × Addr)} {P : Program} {w : World} {K : PySem.W.Frag} {mg : Str → Option Value} {base : Heap} {f : Addr} {fd : FuncData}
def m__law_pool (x_script : (List Int)) : Option Pool := (forF (fun (x2 : Int) (s1 : Int) => (pmul s1 (31 : Int)).bind fun n4 => (pmod (n4 + x2) (1000003 : Int)).bind fun n5 => some (n5)) (cut x_script none (some (63 : Int))) ((7 : Int))).bind fun s6 => some (Pool.mk x_script (0 : Int) (0 : Int) (0 : Int) s6)
def M__law_pool (ds : List D) (d : List D) : Prop := ∃ (x_script : List Int) (r : Pool), ds = x_script.map PyData.int ∧ m__law_pool x_script = some r ∧ d = ePool r
theorem mk__law_pool {x : List Int} {r : Pool} (h : m__law_pool x = some r) : M__law_pool (x.map PyData.int) (ePool r) := ⟨x, r, rfl, h, rfl⟩
abbrev s__law_pool : Stmt := top 31
theorem sc__law_pool : FnScope ["script", "salt", "cell"] ["script"] (defScope s__law_pool) := ⟨rfl, rfl, rfl, by decide +kernel, rfl, by decide +kernel, by decide +kernel⟩
theorem o__law_pool (F : FnP K "_law_pool" s__law_pool f fd) (hm_int : mg "int" = none) (hm_list : mg "list" = none) : FnOkG [] P w K mg base CX0 1 f fd ["script"] (spK K M__law_pool) := by
  refine ok_fnK (k := 0) F sc__law_pool rfl (by decide) fun cdv A outer s H E hr ht ds d hM => ?_
  obtain ⟨x_script, r, rfl, h, rfl⟩ := hM
  have nd := sc__law_pool.nd
  unfold m__law_pool at h
  refine gs_set 1 nd g_int ?_
  obtain ⟨s6, hs6, g⟩ := obind h; clear h; have h := g; clear g
  refine gs_forF (S := Int) (ε := PyData.int) (Cs := fun s => [.sp (klS K (x_script.map PyData.int)), .sh (PyData.int s), .any]) (Cx := fun x s => [.sp (klS K (x_script.map PyData.int)), .sh (PyData.int s), .sh (PyData.int x)]) (is := [2]) hs6 (gi_list (GL.ge (t_slK 0 rfl GO.none (GO.some g_int)))) (.same (.same (.any .nil))) PassesOwn.never rfl (fun x s => (gg_name 2 nd)) (fun x2 hx s1 s' h => ?_) ?_
  · obtain ⟨n4, hn4, g⟩ := obind h; clear h; have h := g; clear g
    obtain ⟨n5, hn5, g⟩ := obind h; clear h; have h := g; clear g
    refine gs_set 1 nd (g_mod hn5 (g_intI hm_int (g_add (g_mul hn4 (g_v 1 rfl) g_int) (g_v 2 rfl))) g_int) ?_
    obtain rfl := oret h
    exact gs_end _ (.same (.same (.any .nil))) rfl
  obtain rfl := oret h
  exact gs_retL (g_lst (ga_cons (GL.ge (t_listK 0 rfl hm_list)) (ga_cons g_int (ga_cons g_int (ga_cons g_int (ga_cons (g_v 1 rfl) ga_nil)))))) (Exists.intro _ rfl)
def m__law_spread (x_cell : Int) : Option Int := (pmod x_cell (2147483647 : Int)).bind fun n9 => (rng 0 (4 : Int)).bind fun ks10 => (forF (fun (x12 : Int) (s11 : Int × Int) => (pmul s11.1 (48271 : Int)).bind fun n16 => (pmod ((n16 + (12345 : Int)) + x12) (2147483647 : Int)).bind fun n17 => (pmul s11.2 (2147483647 : Int)).bind fun n19 => some (n17, (n19 + n17))) ks10 (n9, (1 : Int))).bind fun s20 => some s20.2
def M__law_spread (ds : List D) (d : D) : Prop := ∃ (x_cell : Int) (r : Int), ds = [PyData.int x_cell] ∧ m__law_spread x_cell = some r ∧ d = PyData.int r
theorem mk__law_spread {x_cell : Int} {r : Int} (h : m__law_spread x_cell = some r) : M__law_spread [PyData.int x_cell] (PyData.int r) := ⟨x_cell, r, rfl, h, rfl⟩
abbrev s__law_spread : Stmt := top 32
theorem sc__law_spread : FnScope ["cell", "mixed", "total", "k"] ["cell"] (defScope s__law_spread) := ⟨rfl, rfl, rfl, by decide +kernel, rfl, by decide +kernel, by decide +kernel⟩
theorem o__law_spread (F : FnP K "_law_spread" s__law_spread f fd) (hm_int : mg "int" = none) (hm_range : mg "range" = none) : FnOkG [] P w K mg base CX0 1 f fd ["cell"] (spF 1 M__law_spread) := by
  refine ok_fn (k := 0) F sc__law_spread rfl (by decide) fun cdv A outer s H E hr ht ds d hM hl => ?_
  obtain ⟨x_cell, r, rfl, h, rfl⟩ := hM
  have nd := sc__law_spread.nd
  unfold m__law_spread at h
  obtain ⟨n9, hn9, g⟩ := obind h; clear h; have h := g; clear g
  refine gs_set 1 nd (g_mod hn9 (g_intI hm_int (g_v 0 rfl)) g_int) ?_
  refine gs_set 2 nd g_int ?_
  obtain ⟨ks10, hks10, g⟩ := obind h; clear h; have h := g; clear g
  obtain ⟨s20, hs20, g⟩ := obind h; clear h; have h := g; clear g
  refine gs_forF (S := Int × Int) (ε := PyData.int) (Cs := fun s => [.sh (PyData.int x_cell), .sh (PyData.int s.1), .sh (PyData.int s.2), .any]) (Cx := fun x s => [.sh (PyData.int x_cell), .sh (PyData.int s.1), .sh (PyData.int s.2), .sh (PyData.int x)]) (is := [3]) hs20 (t_range1 hks10 hm_range g_int) (.same (.same (.same (.any .nil)))) PassesOwn.never rfl (fun x s => (gg_name 3 nd)) (fun x12 hx s11 s' h => ?_) ?_
  · obtain ⟨n16, hn16, g⟩ := obind h; clear h; have h := g; clear g
    obtain ⟨n17, hn17, g⟩ := obind h; clear h; have h := g; clear g
    refine gs_set 1 nd (g_mod hn17 (g_intI hm_int (g_add (g_add (g_mul hn16 (g_v 1 rfl) g_int) g_int) (g_v 3 rfl))) g_int) ?_
    obtain ⟨n19, hn19, g⟩ := obind h; clear h; have h := g; clear g
    refine gs_set 2 nd (g_add (g_mul hn19 (g_v 2 rfl) g_int) (g_v 1 rfl)) ?_
    obtain rfl := oret h
    exact gs_end _ (.same (.same (.same (.any .nil)))) rfl
  obtain rfl := oret h
  exact gs_ret (g_v 2 rfl) (Exists.intro _ rfl)
def m__law_draw (x_pool : Pool) (x_many : Int) : Option (Int × Pool) := (bif ((decide (x_pool.cur ≤ (0 : Int))) && (decide (x_pool.at_ < (x_pool.cells.length : Int)))) then (idx x_pool.cells x_pool.at_).bind fun x25 => (bif (decide (x25 < (1000000000000000000 : Int))) then (m__law_spread x25).bind fun r28 => some ({ { { x_pool with at_ := (x_pool.at_ + (1 : Int)) } with cur := x25 } with cur := r28 }) else some ({ { x_pool with at_ := (x_pool.at_ + (1 : Int)) } with cur := x25 })).bind fun (s27 : Pool) => some (s27) else some (x_pool)).bind fun (s24 : Pool) => bif (decide (({ s24 with turn := (s24.turn + (1 : Int)) }).cur ≤ (0 : Int))) then (pmul (({ s24 with turn := (s24.turn + (1 : Int)) }).salt) (48271 : Int)).bind fun n33 => (pmul (({ s24 with turn := (s24.turn + (1 : Int)) }).turn) (69621 : Int)).bind fun n34 => (pmod ((n33 + n34) + (1 : Int)) (2147483647 : Int)).bind fun n35 => (pmul n35 (16807 : Int)).bind fun n37 => (pmod (n37 + ({ s24 with turn := (s24.turn + (1 : Int)) }).turn) (2147483629 : Int)).bind fun n38 => (pdiv n38 (5 : Int)).bind fun n39 => (pmod n39 x_many).bind fun n40 => some (n40, { s24 with turn := (s24.turn + (1 : Int)) }) else (pmod (({ s24 with turn := (s24.turn + (1 : Int)) }).cur) x_many).bind fun n41 => (pdiv (({ s24 with turn := (s24.turn + (1 : Int)) }).cur) x_many).bind fun n42 => some (n41, { { s24 with turn := (s24.turn + (1 : Int)) } with cur := n42 })
def M__law_draw (pd ds : List D) (d : D) (pd' : List D) : Prop := ∃ (x_pool : Pool) (x_many : Int) (r : (Int × Pool)), pd = ePool x_pool ∧ ds = [PyData.int x_many] ∧ m__law_draw x_pool x_many = some r ∧ d = PyData.int r.1 ∧ pd' = ePool r.2
theorem mk__law_draw {x_pool : Pool} {x_many : Int} {r : (Int × Pool)} (h : m__law_draw x_pool x_many = some r) : M__law_draw (ePool x_pool) [PyData.int x_many] (PyData.int r.1) (ePool r.2) := ⟨x_pool, x_many, r, rfl, rfl, h, rfl, rfl⟩
abbrev s__law_draw : Stmt := top 33
theorem sc__law_draw : FnScope ["pool", "many", "value", "cell", "mixed"] ["pool", "many"] (defScope s__law_draw) := ⟨rfl, rfl, rfl, by decide +kernel, rfl, by decide +kernel, by decide +kernel⟩
theorem o__law_draw (F : FnP K "_law_draw" s__law_draw f fd) (c__law_spread : CalG [] P w K mg base 1 "_law_spread" (spF 1 M__law_spread) []) (hm_int : mg "int" = none) (hm_len : mg "len" = none) : FnOkG [] P w K mg base CX0 2 f fd ["pool", "many"] (spP 2 M__law_draw) := by
  refine ok_fnP (k := 1) F sc__law_draw rfl (by decide) fun cdv A outer s H E hr ht q pd ds d pd' hM hl => ?_
  obtain ⟨x_pool, x_many, r, rfl, rfl, h, rfl, rfl⟩ := hM
  have nd := sc__law_draw.nd
  unfold m__law_draw at h
  obtain ⟨s24, hs24, g⟩ := obind h; clear h; have h := g; clear g
  refine gs_ifJ (S := Pool) (Cj := fun s => [.op q (ePool s), .sh (PyData.int x_many), .any, .any, .any]) hs24 (GW.gt (w_and (gt_cmpE op_le (g_ix (ds := ePool x_pool) rfl rfl (g_vp 0 rfl) g_int) (GE.gv g_int) v_le rfl) (gw_and1 (gt_cmpE op_lt (g_ix (ds := ePool x_pool) rfl rfl (g_vp 0 rfl) g_int) (GE.gv (t_len (xs := x_pool.cells) (ε := PyData.int) hm_len rfl (GE.gv (g_ix (ds := ePool x_pool) rfl rfl (g_vp 0 rfl) g_int)))) v_lt rfl)))) (fun h => ?_) (fun h => ?_) ?_
  · obtain ⟨x25, hx25, g⟩ := obind h; clear h; have h := g; clear g
    refine gs_set 3 nd (t_ix (ε := PyData.int) (xs := x_pool.cells) hx25 rfl (GE.gv (g_ix (ds := ePool x_pool) rfl rfl (g_vp 0 rfl) g_int)) (g_ix (ds := ePool x_pool) rfl rfl (g_vp 0 rfl) g_int)) ?_
    refine gs_setIx (s := (.op q (ePool x_pool))) (ds := ePool x_pool) (k := 1) 0 (g_add (g_ix (ds := ePool x_pool) rfl rfl (g_vp 0 rfl) g_int) g_int) rfl rfl g_int rfl ?_
    refine gs_setIx (s := (.op q (ePool ({ x_pool with at_ := (x_pool.at_ + (1 : Int)) })))) (ds := ePool ({ x_pool with at_ := (x_pool.at_ + (1 : Int)) })) (k := 2) 0 (g_v 3 rfl) rfl rfl g_int rfl ?_
    obtain ⟨s27, hs27, g⟩ := obind h; clear h; have h := g; clear g
    refine gs_ifJ (S := Pool) (Cj := fun s => [.op q (ePool s), .sh (PyData.int x_many), .any, .sh (PyData.int x25), .any]) hs27 (gt_cmpE op_lt (g_v 3 rfl) (GE.gv g_int) v_lt rfl) (fun h => ?_) (fun h => ?_) ?_
    · obtain ⟨r28, hr28, g⟩ := obind h; clear h; have h := g; clear g
      refine gs_setIx (s := (.op q (ePool ({ { x_pool with at_ := (x_pool.at_ + (1 : Int)) } with cur := x25 })))) (ds := ePool ({ { x_pool with at_ := (x_pool.at_ + (1 : Int)) } with cur := x25 })) (k := 2) 0 (g_call c__law_spread hr tbn (mk__law_spread hr28) (ga_cons (g_v 3 rfl) ga_nil)) rfl rfl g_int rfl ?_
      obtain rfl := oret h
      exact gs_end _ (.same (.same (.any (.same (.any .nil))))) rfl
    · obtain rfl := oret h
      exact gs_end _ (.same (.same (.any (.same (.any .nil))))) rfl
    obtain rfl := oret h
    exact gs_end _ (.same (.same (.any (.any (.any .nil))))) rfl
  · obtain rfl := oret h
    exact gs_end _ (.same (.same (.any (.any (.any .nil))))) rfl
  refine gs_setIx (s := (.op q (ePool s24))) (ds := ePool s24) (k := 3) 0 (g_add (g_ix (ds := ePool s24) rfl rfl (g_vp 0 rfl) g_int) g_int) rfl rfl g_int rfl ?_
  refine gs_ifC h (gt_cmpE op_le (g_ix (ds := ePool ({ s24 with turn := (s24.turn + (1 : Int)) })) rfl rfl (g_vp 0 rfl) g_int) (GE.gv g_int) v_le rfl) (fun h => ?_) (fun h => ?_)
  · obtain ⟨n33, hn33, g⟩ := obind h; clear h; have h := g; clear g
    obtain ⟨n34, hn34, g⟩ := obind h; clear h; have h := g; clear g
    obtain ⟨n35, hn35, g⟩ := obind h; clear h; have h := g; clear g
    refine gs_set 4 nd (g_mod hn35 (g_intI hm_int (g_add (g_add (g_mul hn33 (g_ix (ds := ePool ({ s24 with turn := (s24.turn + (1 : Int)) })) rfl rfl (g_vp 0 rfl) g_int) g_int) (g_mul hn34 (g_ix (ds := ePool ({ s24 with turn := (s24.turn + (1 : Int)) })) rfl rfl (g_vp 0 rfl) g_int) g_int)) g_int)) g_int) ?_
    obtain ⟨n37, hn37, g⟩ := obind h; clear h; have h := g; clear g
    obtain ⟨n38, hn38, g⟩ := obind h; clear h; have h := g; clear g
    refine gs_set 4 nd (g_mod hn38 (g_intI hm_int (g_add (g_mul hn37 (g_v 4 rfl) g_int) (g_ix (ds := ePool ({ s24 with turn := (s24.turn + (1 : Int)) })) rfl rfl (g_vp 0 rfl) g_int))) g_int) ?_
    obtain ⟨n39, hn39, g⟩ := obind h; clear h; have h := g; clear g
    obtain ⟨n40, hn40, g⟩ := obind h; clear h; have h := g; clear g
    obtain rfl := oret h
    exact gs_ret (g_mod hn40 (g_div hn39 (g_v 4 rfl) g_int) (g_v 1 rfl)) (Exists.intro _ (And.intro rfl rfl))
  · refine gs_nil ?_
    show GS _ _ _ _
    obtain ⟨n41, hn41, g⟩ := obind h; clear h; have h := g; clear g
    refine gs_set 2 nd (g_mod hn41 (g_intI hm_int (g_ix (ds := ePool ({ s24 with turn := (s24.turn + (1 : Int)) })) rfl rfl (g_vp 0 rfl) g_int)) (g_v 1 rfl)) ?_
    obtain ⟨n42, hn42, g⟩ := obind h; clear h; have h := g; clear g
    refine gs_setIx (s := (.op q (ePool ({ s24 with turn := (s24.turn + (1 : Int)) })))) (ds := ePool ({ s24 with turn := (s24.turn + (1 : Int)) })) (k := 2) 0 (g_div hn42 (g_ix (ds := ePool ({ s24 with turn := (s24.turn + (1 : Int)) })) rfl rfl (g_vp 0 rfl) g_int) (g_v 1 rfl)) rfl rfl g_int rfl ?_
    obtain rfl := oret h
    exact gs_ret (g_v 2 rfl) (Exists.intro _ (And.intro rfl rfl))
def m__law_pick {α : Type} (pl : Pool) (xs : List α) : Option (α × Pool) := (m__law_draw pl xs.length).bind fun r1 => (idx xs r1.1).bind fun x => some (x, r1.2)
def M__law_pick (pd ds : List D) (d : D) (pd' : List D) : Prop := ∃ (α : Type) (ε : α → D) (e : D) (pl : Pool) (xs : List α) (r : α × Pool), sq e = some (xs.map ε) ∧ pd = ePool pl ∧ ds = [e] ∧ m__law_pick pl xs = some r ∧ d = ε r.1 ∧ pd' = ePool r.2
theorem mk__law_pick {α : Type} {ε : α → D} {e : D} {pl : Pool} {xs : List α} {r : α × Pool} (hs : sq e = some (xs.map ε)) (h : m__law_pick pl xs = some r) : M__law_pick (ePool pl) [e] (ε r.1) (ePool r.2) := ⟨α, ε, e, pl, xs, r, hs, rfl, rfl, h, rfl, rfl⟩
abbrev s__law_pick : Stmt := top 34
theorem sc__law_pick : FnScope ["pool", "items"] ["pool", "items"] (defScope s__law_pick) := ⟨rfl, rfl, rfl, by decide +kernel, rfl, by decide +kernel, by decide +kernel⟩
theorem o__law_pick (F : FnP K "_law_pick" s__law_pick f fd) (c__law_draw : CalG [] P w K mg base 2 "_law_draw" (spP 2 M__law_draw) []) (hm_len : mg "len" = none) : FnOkG [] P w K mg base CX0 3 f fd ["pool", "items"] (spP 2 M__law_pick) := by
  refine ok_fnP (k := 2) F sc__law_pick rfl (by decide) fun cdv A outer s H E hr ht q pd ds d pd' hM hl => ?_
  obtain ⟨α, ε, e, pl, xs, r, hs, rfl, rfl, h, rfl, rfl⟩ := hM
  unfold m__law_pick at h
  obtain ⟨r1, hr1, h⟩ := obind h
  obtain ⟨x, hx, h⟩ := obind h
  obtain rfl := oret h
  exact gs_ret (t_ixE (ε := ε) (xs := xs) hx hs (g_v 1 rfl) (g_callP 0 c__law_draw hr tbn rfl rfl (ga_cons (t_len (xs := xs) (ε := ε) hm_len hs (GE.gv (g_v 1 rfl))) ga_nil) rfl rfl (mk__law_draw hr1))) (Exists.intro _ (And.intro rfl rfl))
def m__law_falling : Nat → Int → Int → Option (List (List Int))
  | 0, _, _ => none
  | n + 1, x_n, x_most => bif (decide (x_n = (0 : Int))) then some [[]] else (rngD (if x_most < x_n then x_most else x_n) (0 : Int)).bind fun ks50 => (forF (fun (x52 : Int) (s51 : (List (List Int))) => (m__law_falling n (x_n - x52) x52).bind fun r53 => (szL r53).bind fun u54 => (lcF (fun (x55 : (List Int)) => (szOk ([x52].length + x55.length)).bind fun u56 => some (some ([x52] ++ x55))) r53).bind fun ys57 => (szOk (s51.length + ys57.length)).bind fun u58 => some ((s51 ++ ys57))) ks50 ([])).bind fun s59 => some s59
def M__law_falling (n : Nat) (ds : List D) (d : D) : Prop := ∃ (x_n : Int) (x_most : Int) (r : (List (List Int))), ds = [PyData.int x_n, PyData.int x_most] ∧ m__law_falling n x_n x_most = some r ∧ d = (eL (eT PyData.int)) r
theorem mk__law_falling {n : Nat} {x_n : Int} {x_most : Int} {r : (List (List Int))} (h : m__law_falling n x_n x_most = some r) : M__law_falling n [PyData.int x_n, PyData.int x_most] ((eL (eT PyData.int)) r) := ⟨x_n, x_most, r, rfl, h, rfl⟩
abbrev s__law_falling : Stmt := top 36
theorem sc__law_falling : FnScope ["n", "most", "found", "first", "rest"] ["n", "most"] (defScope s__law_falling) := ⟨rfl, rfl, rfl, by decide +kernel, rfl, by decide +kernel, by decide +kernel⟩
theorem o__law_falling (F : FnP K "_law_falling" s__law_falling f fd) (hm_min : mg "min" = none) (hm_range : mg "range" = none) (hm_self : mg "_law_falling" = some (.ref f)) (hb_self : Binds K fd ["n", "most"] []) : ∀ n, FnOkG [] P w K mg base CX0 (0 + n + 1) f fd ["n", "most"] (spF 2 (M__law_falling n)) := by
  intro n
  induction n with
  | zero =>
    refine ok_fn (k := 0) F sc__law_falling rfl (by decide) fun cdv A outer s H E hr ht ds d hM hl => ?_
    obtain ⟨x_n, x_most, r, rfl, h, rfl⟩ := hM
    cases h
  | succ n ih =>
    have c__law_falling : CalG [] P w K mg base (0 + n + 1) "_law_falling" (spF 2 (M__law_falling n)) [] := cal_of F ih hm_self hb_self
    refine ok_fn (k := 0 + n + 1) F sc__law_falling rfl (by decide) fun cdv A outer s H E hr ht ds d hM hl => ?_
    obtain ⟨x_n, x_most, r, rfl, h, rfl⟩ := hM
    have nd := sc__law_falling.nd
    unfold m__law_falling at h
    refine gs_ifC h (gt_cmp op_eq (GE.gv (g_v 0 rfl)) (GE.gv g_int) v_eqI rfl) (fun h => ?_) (fun h => ?_)
    · obtain rfl := oret h
      exact gs_ret (GL.ge (g_lst (ga_cons (g_tup ga_nil : GE _ _ _ ((eT PyData.int) []) _) ga_nil) : GL _ _ _ (List.map (eT PyData.int) [[]]) _)) (Exists.intro _ rfl)
    · refine gs_nil ?_
      show GS _ _ _ _
      refine gs_setL 2 nd (g_lst ga_nil : GL _ _ _ (List.map (eT PyData.int) []) _) ?_
      obtain ⟨ks50, hks50, g⟩ := obind h; clear h; have h := g; clear g
      obtain ⟨s59, hs59, g⟩ := obind h; clear h; have h := g; clear g
      refine gs_frz 2 rfl ?_
      refine gs_forF (S := (List (List Int))) (ε := PyData.int) (Cs := fun s => [.sh (PyData.int x_n), .sh (PyData.int x_most), .sh ((eL (eT PyData.int)) s), .any, .any]) (Cx := fun x s => [.sh (PyData.int x_n), .sh (PyData.int x_most), .sh ((eL (eT PyData.int)) s), .sh (PyData.int x), .any]) (is := [3]) hs59 (t_rangeD hks50 hm_range (g_min2 rfl hm_min (g_v 0 rfl) (g_v 1 rfl)) g_int) (.same (.same (.same (.any (.any .nil))))) PassesOwn.never rfl (fun x s => (gg_name 3 nd)) (fun x52 hx s51 s' h => ?_) ?_
      · obtain ⟨r53, hr53, g⟩ := obind h; clear h; have h := g; clear g
        obtain ⟨u54, hu54, g⟩ := obind h; clear h; have h := g; clear g
        obtain ⟨ys57, hys57, g⟩ := obind h; clear h; have h := g; clear g
        obtain ⟨u58, hu58, g⟩ := obind h; clear h; have h := g; clear g
        refine gs_setL 2 nd (t_catL hu58 (GE.gv (g_v 2 rfl)) (GL.v (g_lc (ε := (eT PyData.int)) (ε' := (eT PyData.int)) hys57 (szL_le hu54) rfl nd (own := [("rest", 4)]) (blkOk_by (by first | rfl | kernel_rfl)) (gi_list (g_call c__law_falling hr tbn (mk__law_falling hr53) (ga_cons (g_sub (g_v 0 rfl) (g_v 3 rfl)) (ga_cons (g_v 3 rfl) ga_nil)) (hk := by omega))) (NoOwn.by rfl) (fun x55 hx o h => by obtain ⟨u56, hu56, g⟩ := obind h; clear h; have h := g; clear g; obtain rfl := oret h; exact turn_val (fun B => (gg_name 4 nd)) (fun B => (t_catT (xs := [x52]) (ys := x55) hu56 (g_tup (ga_cons (g_v 3 rfl) ga_nil) : GE _ _ _ ((eT PyData.int) [x52]) _) (g_v 4 rfl))))))) ?_
        obtain rfl := oret h
        refine gs_frz 2 rfl ?_
        exact gs_end _ (.same (.same (.same (.any (.any .nil))))) rfl
      obtain rfl := oret h
      exact gs_ret (g_v 2 rfl) (Exists.intro _ rfl)
def m__law_wheels_with (x_n : Int) : Option (List (List Int)) := (whF (fun (s43 : (List (List Int)) × Int × Int) => some (decide ((1 : Int) < s43.2.1))) (fun (s43 : (List (List Int)) × Int × Int) => (whF (fun (s44 : Int × Int) => (pmod s44.1 s43.2.2).bind fun n45 => some (decide (n45 = (0 : Int)))) (fun (s44 : Int × Int) => (pdiv s44.1 s43.2.2).bind fun n46 => some (n46, (s44.2 + (1 : Int)))) 100000 (s43.2.1, (0 : Int))).bind fun s47 => (forF (fun (x49 : (List Int)) (s48 : (List (List Int))) => (m__law_falling 10 s47.2 s47.2).bind fun r60 => (forF (fun (x62 : (List Int)) (s61 : (List (List Int))) => (rng 0 (if (x62.length : Int) > (x49.length : Int) then (x62.length : Int) else (x49.length : Int))).bind fun ks63 => (forF (fun (x65 : Int) (s64 : (List Int)) => (bif (decide (x65 < (x49.length : Int))) then (idx x49 (((x49.length : Int) - (1 : Int)) - x65)).bind fun x66 => some x66 else some (1 : Int)).bind fun v67 => (bif (decide (x65 < (x62.length : Int))) then (idx x62 x65).bind fun x68 => some x68 else some (0 : Int)).bind fun v69 => (rng 0 v69).bind fun ks70 => (forF (fun (x72 : Int) (s71 : Int) => (pmul s71 s43.2.2).bind fun n73 => some (n73)) ks70 ((1 : Int))).bind fun s74 => (pmul v67 s74).bind fun n75 => (szOk (s64.length + 1)).bind fun u76 => some ((s64 ++ [n75]))) ks63 ([])).bind fun s77 => (szOk (s61.length + 1)).bind fun u78 => some ((s61 ++ [s77.reverse]))) r60 (s48)).bind fun s79 => some (s79)) s43.1 ([])).bind fun s80 => (some (s43.2.2 + (1 : Int))).bind fun v81 => some (s80, s47.1, v81)) 100000 ([[]], x_n, (2 : Int))).bind fun s82 => (gd (srtOk (s82.1.map (eT PyData.int)))).bind fun u83 => some (isort (fun a b => leD ((eT PyData.int) a) ((eT PyData.int) b)) s82.1)
def M__law_wheels_with (ds : List D) (d : D) : Prop := ∃ (x_n : Int) (r : (List (List Int))), ds = [PyData.int x_n] ∧ m__law_wheels_with x_n = some r ∧ d = (eL (eT PyData.int)) r
theorem mk__law_wheels_with {x_n : Int} {r : (List (List Int))} (h : m__law_wheels_with x_n = some r) : M__law_wheels_with [PyData.int x_n] ((eL (eT PyData.int)) r) := ⟨x_n, r, rfl, h, rfl⟩
abbrev s__law_wheels_with : Stmt := top 37
theorem sc__law_wheels_with : FnScope ["n", "rows", "m", "p", "many", "longer", "row", "steps", "numbers", "k", "number", "power", "step"] ["n"] (defScope s__law_wheels_with) := ⟨rfl, rfl, rfl, by decide +kernel, rfl, by decide +kernel, by decide +kernel⟩
theorem o__law_wheels_with (F : FnP K "_law_wheels_with" s__law_wheels_with f fd) (c__law_falling : CalG [] P w K mg base 11 "_law_falling" (spF 2 (M__law_falling 10)) []) (hm_int : mg "int" = none) (hm_len : mg "len" = none) (hm_max : mg "max" = none) (hm_range : mg "range" = none) (hm_sorted : mg "sorted" = none) (hm_tuple : mg "tuple" = none) : FnOkG [] P w K mg base CX0 12 f fd ["n"] (spF 1 M__law_wheels_with) := by
  refine ok_fn (k := 11) F sc__law_wheels_with rfl (by decide) fun cdv A outer s H E hr ht ds d hM hl => ?_
  obtain ⟨x_n, r, rfl, h, rfl⟩ := hM
  have nd := sc__law_wheels_with.nd
  unfold m__law_wheels_with at h
  refine gs_setL 1 nd (g_lst (ga_cons (g_tup ga_nil : GE _ _ _ ((eT PyData.int) []) _) ga_nil) : GL _ _ _ (List.map (eT PyData.int) [[]]) _) ?_
  refine gs_re [.sh (PyData.int x_n), .ol ([[]].map (eT PyData.int)), .any, .any, .any, .any, .any, .any, .any, .any, .any, .any, .any] rfl ?_
  refine gs_set 2 nd (g_v 0 rfl) ?_
  refine gs_re [.sh (PyData.int x_n), .ol ([[]].map (eT PyData.int)), .sh (PyData.int x_n), .any, .any, .any, .any, .any, .any, .any, .any, .any, .any] rfl ?_
  refine gs_set 3 nd g_int ?_
  refine gs_re [.sh (PyData.int x_n), .ol ([[]].map (eT PyData.int)), .sh (PyData.int x_n), .sh (PyData.int (2 : Int)), .any, .any, .any, .any, .any, .any, .any, .any, .any] rfl ?_
  obtain ⟨s82, hs82, g⟩ := obind h; clear h; have h := g; clear g
  refine gs_frz 1 rfl ?_
  refine gs_whF (S := (List (List Int)) × Int × Int) (Cs := fun s => [.sh (PyData.int x_n), .sh ((eL (eT PyData.int)) s.1), .sh (PyData.int s.2.1), .sh (PyData.int s.2.2), .any, .any, .any, .any, .any, .any, .any, .any, .any]) hs82 (.same (.same (.same (.same (.any (.any (.any (.any (.any (.any (.any (.any (.any .nil))))))))))))) PassesOwn.never (fun s43 k h => by obtain rfl := oret h; exact (gt_cmpE op_gt (g_v 2 rfl) (GE.gv g_int) v_gt rfl)) (fun s43 s' hc h => ?_) ?_
  · refine gs_set 4 nd g_int ?_
    refine gs_re [.sh (PyData.int x_n), .sh ((eL (eT PyData.int)) s43.1), .sh (PyData.int s43.2.1), .sh (PyData.int s43.2.2), .sh (PyData.int (0 : Int)), .any, .any, .any, .any, .any, .any, .any, .any] rfl ?_
    obtain ⟨s47, hs47, g⟩ := obind h; clear h; have h := g; clear g
    refine gs_whF (S := Int × Int) (Cs := fun s => [.sh (PyData.int x_n), .sh ((eL (eT PyData.int)) s43.1), .sh (PyData.int s.1), .sh (PyData.int s43.2.2), .sh (PyData.int s.2), .any, .any, .any, .any, .any, .any, .any, .any]) hs47 (.same (.same (.same (.same (.same (.any (.any (.any (.any (.any (.any (.any (.any .nil))))))))))))) PassesOwn.never (fun s44 k h => by obtain ⟨n45, hn45, g⟩ := obind h; clear h; have h := g; clear g; obtain rfl := oret h; exact (gt_cmp op_eq (GE.gv (g_mod hn45 (g_intI hm_int (g_v 2 rfl)) (g_v 3 rfl))) (GE.gv g_int) v_eqI rfl)) (fun s44 s' hc h => ?_) ?_
    · obtain ⟨n46, hn46, g⟩ := obind h; clear h; have h := g; clear g
      refine gs_set 2 nd (g_div hn46 (g_v 2 rfl) (g_v 3 rfl)) ?_
      refine gs_re [.sh (PyData.int x_n), .sh ((eL (eT PyData.int)) s43.1), .sh (PyData.int n46), .sh (PyData.int s43.2.2), .sh (PyData.int s44.2), .any, .any, .any, .any, .any, .any, .any, .any] rfl ?_
      refine gs_set 4 nd (g_add (g_v 4 rfl) g_int) ?_
      refine gs_re [.sh (PyData.int x_n), .sh ((eL (eT PyData.int)) s43.1), .sh (PyData.int n46), .sh (PyData.int s43.2.2), .sh (PyData.int (s44.2 + (1 : Int))), .any, .any, .any, .any, .any, .any, .any, .any] rfl ?_
      obtain rfl := oret h
      exact gs_end _ (.same (.same (.same (.same (.same (.any (.any (.any (.any (.any (.any (.any (.any .nil))))))))))))) rfl
    refine gs_setL 5 nd (g_lst ga_nil : GL _ _ _ (List.map (eT PyData.int) []) _) ?_
    refine gs_re [.sh (PyData.int x_n), .sh ((eL (eT PyData.int)) s43.1), .sh (PyData.int s47.1), .sh (PyData.int s43.2.2), .sh (PyData.int s47.2), .ol ([].map (eT PyData.int)), .any, .any, .any, .any, .any, .any, .any] rfl ?_
    obtain ⟨s80, hs80, g⟩ := obind h; clear h; have h := g; clear g
    refine gs_forF (S := (List (List Int))) (ε := (eT PyData.int)) (Cs := fun s => [.sh (PyData.int x_n), .sh ((eL (eT PyData.int)) s43.1), .sh (PyData.int s47.1), .sh (PyData.int s43.2.2), .sh (PyData.int s47.2), .ol (s.map (eT PyData.int)), .any, .any, .any, .any, .any, .any, .any]) (Cx := fun x s => [.sh (PyData.int x_n), .sh ((eL (eT PyData.int)) s43.1), .sh (PyData.int s47.1), .sh (PyData.int s43.2.2), .sh (PyData.int s47.2), .ol (s.map (eT PyData.int)), .sh ((eT PyData.int) x), .any, .any, .any, .any, .any, .any]) (is := [6]) hs80 (gi_list (g_v 1 rfl)) (.same (.same (.same (.same (.same (.same (.any (.any (.any (.any (.any (.any (.any .nil))))))))))))) PassesOwn.never rfl (fun x s => (gg_name 6 nd)) (fun x49 hx s48 s' h => ?_) ?_
    · obtain ⟨r60, hr60, g⟩ := obind h; clear h; have h := g; clear g
      obtain ⟨s79, hs79, g⟩ := obind h; clear h; have h := g; clear g
      refine gs_forF (S := (List (List Int))) (ε := (eT PyData.int)) (Cs := fun s => [.sh (PyData.int x_n), .sh ((eL (eT PyData.int)) s43.1), .sh (PyData.int s47.1), .sh (PyData.int s43.2.2), .sh (PyData.int s47.2), .ol (s.map (eT PyData.int)), .sh ((eT PyData.int) x49), .any, .any, .any, .any, .any, .any]) (Cx := fun x s => [.sh (PyData.int x_n), .sh ((eL (eT PyData.int)) s43.1), .sh (PyData.int s47.1), .sh (PyData.int s43.2.2), .sh (PyData.int s47.2), .ol (s.map (eT PyData.int)), .sh ((eT PyData.int) x49), .sh ((eT PyData.int) x), .any, .any, .any, .any, .any]) (is := [7]) hs79 (gi_list (g_call c__law_falling hr tbn (mk__law_falling hr60) (ga_cons (g_v 4 rfl) (ga_cons (g_v 4 rfl) ga_nil)))) (.same (.same (.same (.same (.same (.same (.same (.any (.any (.any (.any (.any (.any .nil))))))))))))) PassesOwn.never rfl (fun x s => (gg_name 7 nd)) (fun x62 hx s61 s' h => ?_) ?_
      · refine gs_setL 8 nd (g_lst ga_nil : GL _ _ _ (List.map PyData.int []) _) ?_
        refine gs_re [.sh (PyData.int x_n), .sh ((eL (eT PyData.int)) s43.1), .sh (PyData.int s47.1), .sh (PyData.int s43.2.2), .sh (PyData.int s47.2), .ol (s61.map (eT PyData.int)), .sh ((eT PyData.int) x49), .sh ((eT PyData.int) x62), .ol ([].map PyData.int), .any, .any, .any, .any] rfl ?_
        obtain ⟨ks63, hks63, g⟩ := obind h; clear h; have h := g; clear g
        obtain ⟨s77, hs77, g⟩ := obind h; clear h; have h := g; clear g
        refine gs_forF (S := (List Int)) (ε := PyData.int) (Cs := fun s => [.sh (PyData.int x_n), .sh ((eL (eT PyData.int)) s43.1), .sh (PyData.int s47.1), .sh (PyData.int s43.2.2), .sh (PyData.int s47.2), .ol (s61.map (eT PyData.int)), .sh ((eT PyData.int) x49), .sh ((eT PyData.int) x62), .ol (s.map PyData.int), .any, .any, .any, .any]) (Cx := fun x s => [.sh (PyData.int x_n), .sh ((eL (eT PyData.int)) s43.1), .sh (PyData.int s47.1), .sh (PyData.int s43.2.2), .sh (PyData.int s47.2), .ol (s61.map (eT PyData.int)), .sh ((eT PyData.int) x49), .sh ((eT PyData.int) x62), .ol (s.map PyData.int), .sh (PyData.int x), .any, .any, .any]) (is := [9]) hs77 (t_range1 hks63 hm_range (g_max2 rfl hm_max (t_len (xs := x49) (ε := PyData.int) hm_len rfl (GE.gv (g_v 6 rfl))) (t_len (xs := x62) (ε := PyData.int) hm_len rfl (GE.gv (g_v 7 rfl))))) (.same (.same (.same (.same (.same (.same (.same (.same (.same (.any (.any (.any (.any .nil))))))))))))) PassesOwn.never rfl (fun x s => (gg_name 9 nd)) (fun x65 hx s64 s' h => ?_) ?_
        · obtain ⟨v67, hv67, g⟩ := obind h; clear h; have h := g; clear g
          refine gs_set 10 nd (t_ifO (ε := PyData.int) hv67 (gt_cmpE op_lt (g_v 9 rfl) (GE.gv (t_len (xs := x49) (ε := PyData.int) hm_len rfl (GE.gv (g_v 6 rfl)))) v_lt rfl) (fun h => by obtain ⟨x66, hx66, g⟩ := obind h; clear h; have h := g; clear g; obtain rfl := oret h; exact (t_ix (ε := PyData.int) (xs := x49) hx66 rfl (GE.gv (g_v 6 rfl)) (g_sub (g_sub (t_len (xs := x49) (ε := PyData.int) hm_len rfl (GE.gv (g_v 6 rfl))) g_int) (g_v 9 rfl)))) (fun h => by obtain rfl := oret h; exact g_int)) ?_
          refine gs_re [.sh (PyData.int x_n), .sh ((eL (eT PyData.int)) s43.1), .sh (PyData.int s47.1), .sh (PyData.int s43.2.2), .sh (PyData.int s47.2), .ol (s61.map (eT PyData.int)), .sh ((eT PyData.int) x49), .sh ((eT PyData.int) x62), .ol (s64.map PyData.int), .sh (PyData.int x65), .sh (PyData.int v67), .any, .any] rfl ?_
          refine gs_set 11 nd g_int ?_
          refine gs_re [.sh (PyData.int x_n), .sh ((eL (eT PyData.int)) s43.1), .sh (PyData.int s47.1), .sh (PyData.int s43.2.2), .sh (PyData.int s47.2), .ol (s61.map (eT PyData.int)), .sh ((eT PyData.int) x49), .sh ((eT PyData.int) x62), .ol (s64.map PyData.int), .sh (PyData.int x65), .sh (PyData.int v67), .sh (PyData.int (1 : Int)), .any] rfl ?_
          obtain ⟨v69, hv69, g⟩ := obind h; clear h; have h := g; clear g
          obtain ⟨ks70, hks70, g⟩ := obind h; clear h; have h := g; clear g
          obtain ⟨s74, hs74, g⟩ := obind h; clear h; have h := g; clear g
          refine gs_forF (S := Int) (ε := PyData.int) (Cs := fun s => [.sh (PyData.int x_n), .sh ((eL (eT PyData.int)) s43.1), .sh (PyData.int s47.1), .sh (PyData.int s43.2.2), .sh (PyData.int s47.2), .ol (s61.map (eT PyData.int)), .sh ((eT PyData.int) x49), .sh ((eT PyData.int) x62), .ol (s64.map PyData.int), .sh (PyData.int x65), .sh (PyData.int v67), .sh (PyData.int s), .any]) (Cx := fun x s => [.sh (PyData.int x_n), .sh ((eL (eT PyData.int)) s43.1), .sh (PyData.int s47.1), .sh (PyData.int s43.2.2), .sh (PyData.int s47.2), .ol (s61.map (eT PyData.int)), .sh ((eT PyData.int) x49), .sh ((eT PyData.int) x62), .ol (s64.map PyData.int), .sh (PyData.int x65), .sh (PyData.int v67), .sh (PyData.int s), .sh (PyData.int x)]) (is := [12]) hs74 (t_range1 hks70 hm_range (t_ifO (ε := PyData.int) hv69 (gt_cmpE op_lt (g_v 9 rfl) (GE.gv (t_len (xs := x62) (ε := PyData.int) hm_len rfl (GE.gv (g_v 7 rfl)))) v_lt rfl) (fun h => by obtain ⟨x68, hx68, g⟩ := obind h; clear h; have h := g; clear g; obtain rfl := oret h; exact (t_ix (ε := PyData.int) (xs := x62) hx68 rfl (GE.gv (g_v 7 rfl)) (g_v 9 rfl))) (fun h => by obtain rfl := oret h; exact g_int))) (.same (.same (.same (.same (.same (.same (.same (.same (.same (.same (.same (.same (.any .nil))))))))))))) PassesOwn.never rfl (fun x s => (gg_name 12 nd)) (fun x72 hx s71 s' h => ?_) ?_
          · obtain ⟨n73, hn73, g⟩ := obind h; clear h; have h := g; clear g
            refine gs_set 11 nd (g_mul hn73 (g_v 11 rfl) (g_v 3 rfl)) ?_
            refine gs_re [.sh (PyData.int x_n), .sh ((eL (eT PyData.int)) s43.1), .sh (PyData.int s47.1), .sh (PyData.int s43.2.2), .sh (PyData.int s47.2), .ol (s61.map (eT PyData.int)), .sh ((eT PyData.int) x49), .sh ((eT PyData.int) x62), .ol (s64.map PyData.int), .sh (PyData.int x65), .sh (PyData.int v67), .sh (PyData.int n73), .sh (PyData.int x72)] rfl ?_
            obtain rfl := oret h
            exact gs_end _ (.same (.same (.same (.same (.same (.same (.same (.same (.same (.same (.same (.same (.any .nil))))))))))))) rfl
          obtain ⟨n75, hn75, g⟩ := obind h; clear h; have h := g; clear g
          obtain ⟨u76, hu76, g⟩ := obind h; clear h; have h := g; clear g
          refine gs_expr (t_append 8 hu76 rfl (g_mul hn75 (g_v 10 rfl) (g_v 11 rfl)) rfl) ?_
          obtain rfl := oret h
          exact gs_end _ (.same (.same (.same (.same (.same (.same (.same (.same (.same (.any (.any (.any (.any .nil))))))))))))) rfl
        obtain ⟨u78, hu78, g⟩ := obind h; clear h; have h := g; clear g
        refine gs_expr (t_append 5 hu78 rfl (g_tuple rfl hm_tuple (GL.v (t_revL (g_vo 8 rfl)))) rfl) ?_
        obtain rfl := oret h
        exact gs_end _ (.same (.same (.same (.same (.same (.same (.same (.any (.any (.any (.any (.any (.any .nil))))))))))))) rfl
      obtain rfl := oret h
      exact gs_end _ (.same (.same (.same (.same (.same (.same (.any (.any (.any (.any (.any (.any (.any .nil))))))))))))) rfl
    refine gs_set 1 nd (g_frz 5 rfl) ?_
    refine gs_re [.sh (PyData.int x_n), .sh ((eL (eT PyData.int)) s80), .sh (PyData.int s47.1), .sh (PyData.int s43.2.2), .sh (PyData.int s47.2), .sh ((eL (eT PyData.int)) s80), .any, .any, .any, .any, .any, .any, .any] rfl ?_
    obtain ⟨v81, hv81, g⟩ := obind h; clear h; have h := g; clear g
    refine gs_set 3 nd (GE.cast (ε := PyData.int) hv81 (g_add (g_v 3 rfl) g_int)) ?_
    refine gs_re [.sh (PyData.int x_n), .sh ((eL (eT PyData.int)) s80), .sh (PyData.int s47.1), .sh (PyData.int v81), .sh (PyData.int s47.2), .sh ((eL (eT PyData.int)) s80), .any, .any, .any, .any, .any, .any, .any] rfl ?_
    obtain rfl := oret h
    exact gs_end _ (.same (.same (.same (.same (.any (.any (.any (.any (.any (.any (.any (.any (.any .nil))))))))))))) rfl
  obtain ⟨u83, hu83, g⟩ := obind h; clear h; have h := g; clear g
  obtain rfl := oret h
  exact gs_ret (GL.ge (t_sorted hr hu83 hm_sorted (GE.gv (g_v 1 rfl)))) (Exists.intro _ rfl)
def m__law_wheels (x_pool : Pool) (x_most : Int) : Option ((List Int) × Pool) := (m__law_draw x_pool x_most).bind fun r84 => (m__law_wheels_with ((1 : Int) + r84.1)).bind fun r85 => (m__law_pick r84.2 r85).bind fun r86 => some (r86.1, r86.2)
def M__law_wheels (pd ds : List D) (d : D) (pd' : List D) : Prop := ∃ (x_pool : Pool) (x_most : Int) (r : ((List Int) × Pool)), pd = ePool x_pool ∧ ds = [PyData.int x_most] ∧ m__law_wheels x_pool x_most = some r ∧ d = (eT PyData.int) r.1 ∧ pd' = ePool r.2
theorem mk__law_wheels {x_pool : Pool} {x_most : Int} {r : ((List Int) × Pool)} (h : m__law_wheels x_pool x_most = some r) : M__law_wheels (ePool x_pool) [PyData.int x_most] ((eT PyData.int) r.1) (ePool r.2) := ⟨x_pool, x_most, r, rfl, rfl, h, rfl, rfl⟩
abbrev s__law_wheels : Stmt := top 38
theorem sc__law_wheels : FnScope ["pool", "most"] ["pool", "most"] (defScope s__law_wheels) := ⟨rfl, rfl, rfl, by decide +kernel, rfl, by decide +kernel, by decide +kernel⟩
theorem o__law_wheels (F : FnP K "_law_wheels" s__law_wheels f fd) (c__law_pick : CalG [] P w K mg base 3 "_law_pick" (spP 2 M__law_pick) []) (c__law_wheels_with : CalG [] P w K mg base 12 "_law_wheels_with" (spF 1 M__law_wheels_with) []) (c__law_draw : CalG [] P w K mg base 2 "_law_draw" (spP 2 M__law_draw) []) : FnOkG [] P w K mg base CX0 13 f fd ["pool", "most"] (spP 2 M__law_wheels) := by
  refine ok_fnP (k := 12) F sc__law_wheels rfl (by decide) fun cdv A outer s H E hr ht q pd ds d pd' hM hl => ?_
  obtain ⟨x_pool, x_most, r, rfl, rfl, h, rfl, rfl⟩ := hM
  have nd := sc__law_wheels.nd
  unfold m__law_wheels at h
  obtain ⟨r84, hr84, g⟩ := obind h; clear h; have h := g; clear g
  obtain ⟨r85, hr85, g⟩ := obind h; clear h; have h := g; clear g
  obtain ⟨r86, hr86, g⟩ := obind h; clear h; have h := g; clear g
  obtain rfl := oret h
  exact gs_ret (g_callP 0 c__law_pick hr tbn rfl rfl (ga_cons (g_call c__law_wheels_with hr tbn (mk__law_wheels_with hr85) (ga_cons (g_add g_int (g_callP 0 c__law_draw hr tbn rfl rfl (ga_cons (g_v 1 rfl) ga_nil) rfl rfl (mk__law_draw hr84))) ga_nil)) ga_nil) rfl rfl (mk__law_pick (ε := (eT PyData.int)) (xs := r85) rfl hr86)) (Exists.intro _ (And.intro rfl rfl))
def m__law_all (x_wheels : (List Int)) : Option (List (List Int)) := (forF (fun (x89 : Int) (s88 : (List (List Int))) => (forF (fun (x91 : (List Int)) (s90 : (List (List Int))) => (rng 0 x89).bind fun ks92 => (lcF (fun (x93 : Int) => (szOk (x91.length + [x93].length)).bind fun u94 => some (some (x91 ++ [x93]))) ks92).bind fun ys95 => (szOk (s90.length + ys95.length)).bind fun u96 => some ((s90 ++ ys95))) s88 ([])).bind fun s97 => some (s97)) x_wheels ([[]])).bind fun s98 => some s98
def M__law_all (ds : List D) (d : D) : Prop := ∃ (x_wheels : (List Int)) (r : (List (List Int))), ds = [(eT PyData.int) x_wheels] ∧ m__law_all x_wheels = some r ∧ d = (eL (eT PyData.int)) r
theorem mk__law_all {x_wheels : (List Int)} {r : (List (List Int))} (h : m__law_all x_wheels = some r) : M__law_all [(eT PyData.int) x_wheels] ((eL (eT PyData.int)) r) := ⟨x_wheels, r, rfl, h, rfl⟩
abbrev s__law_all : Stmt := top 39
theorem sc__law_all : FnScope ["wheels", "rows", "number", "longer", "row", "x"] ["wheels"] (defScope s__law_all) := ⟨rfl, rfl, rfl, by decide +kernel, rfl, by decide +kernel, by decide +kernel⟩
theorem o__law_all (F : FnP K "_law_all" s__law_all f fd) (hm_range : mg "range" = none) : FnOkG [] P w K mg base CX0 1 f fd ["wheels"] (spF 1 M__law_all) := by
  refine ok_fn (k := 0) F sc__law_all rfl (by decide) fun cdv A outer s H E hr ht ds d hM hl => ?_
  obtain ⟨x_wheels, r, rfl, h, rfl⟩ := hM
  have nd := sc__law_all.nd
  unfold m__law_all at h
  refine gs_setL 1 nd (g_lst (ga_cons (g_tup ga_nil : GE _ _ _ ((eT PyData.int) []) _) ga_nil) : GL _ _ _ (List.map (eT PyData.int) [[]]) _) ?_
  refine gs_re [.sh ((eT PyData.int) x_wheels), .ol ([[]].map (eT PyData.int)), .any, .any, .any, .any] rfl ?_
  obtain ⟨s98, hs98, g⟩ := obind h; clear h; have h := g; clear g
  refine gs_frz 1 rfl ?_
  refine gs_forF (S := (List (List Int))) (ε := PyData.int) (Cs := fun s => [.sh ((eT PyData.int) x_wheels), .sh ((eL (eT PyData.int)) s), .any, .any, .any, .any]) (Cx := fun x s => [.sh ((eT PyData.int) x_wheels), .sh ((eL (eT PyData.int)) s), .sh (PyData.int x), .any, .any, .any]) (is := [2]) hs98 (gi_tup (g_v 0 rfl)) (.same (.same (.any (.any (.any (.any .nil)))))) PassesOwn.never rfl (fun x s => (gg_name 2 nd)) (fun x89 hx s88 s' h => ?_) ?_
  · refine gs_setL 3 nd (g_lst ga_nil : GL _ _ _ (List.map (eT PyData.int) []) _) ?_
    refine gs_re [.sh ((eT PyData.int) x_wheels), .sh ((eL (eT PyData.int)) s88), .sh (PyData.int x89), .ol ([].map (eT PyData.int)), .any, .any] rfl ?_
    obtain ⟨s97, hs97, g⟩ := obind h; clear h; have h := g; clear g
    refine gs_frz 3 rfl ?_
    refine gs_forF (S := (List (List Int))) (ε := (eT PyData.int)) (Cs := fun s => [.sh ((eT PyData.int) x_wheels), .sh ((eL (eT PyData.int)) s88), .sh (PyData.int x89), .sh ((eL (eT PyData.int)) s), .any, .any]) (Cx := fun x s => [.sh ((eT PyData.int) x_wheels), .sh ((eL (eT PyData.int)) s88), .sh (PyData.int x89), .sh ((eL (eT PyData.int)) s), .sh ((eT PyData.int) x), .any]) (is := [4]) hs97 (gi_list (g_v 1 rfl)) (.same (.same (.same (.same (.any (.any .nil)))))) PassesOwn.never rfl (fun x s => (gg_name 4 nd)) (fun x91 hx s90 s' h => ?_) ?_
    · obtain ⟨ks92, hks92, g⟩ := obind h; clear h; have h := g; clear g
      obtain ⟨ys95, hys95, g⟩ := obind h; clear h; have h := g; clear g
      obtain ⟨u96, hu96, g⟩ := obind h; clear h; have h := g; clear g
      refine gs_setL 3 nd (t_catL hu96 (GE.gv (g_v 3 rfl)) (GL.v (g_lc (ε := PyData.int) (ε' := (eT PyData.int)) hys95 (rng_spec hks92).2.2.2 rfl nd (own := [("x", 5)]) (blkOk_by (by first | rfl | kernel_rfl)) (t_range1 hks92 hm_range (g_v 2 rfl)) (NoOwn.by rfl) (fun x93 hx o h => by obtain ⟨u94, hu94, g⟩ := obind h; clear h; have h := g; clear g; obtain rfl := oret h; exact turn_val (fun B => (gg_name 5 nd)) (fun B => (t_catT (xs := x91) (ys := [x93]) hu94 (g_v 4 rfl) (g_tup (ga_cons (g_v 5 rfl) ga_nil) : GE _ _ _ ((eT PyData.int) [x93]) _))))))) ?_
      refine gs_re [.sh ((eT PyData.int) x_wheels), .sh ((eL (eT PyData.int)) s88), .sh (PyData.int x89), .ol ((s90 ++ ys95).map (eT PyData.int)), .sh ((eT PyData.int) x91), .any] rfl ?_
      obtain rfl := oret h
      refine gs_frz 3 rfl ?_
      exact gs_end _ (.same (.same (.same (.same (.any (.any .nil)))))) rfl
    refine gs_set 1 nd (g_v 3 rfl) ?_
    refine gs_re [.sh ((eT PyData.int) x_wheels), .sh ((eL (eT PyData.int)) s97), .sh (PyData.int x89), .sh ((eL (eT PyData.int)) s97), .any, .any] rfl ?_
    obtain rfl := oret h
    exact gs_end _ (.same (.same (.any (.any (.any (.any .nil)))))) rfl
  obtain rfl := oret h
  exact gs_ret (g_v 1 rfl) (Exists.intro _ rfl)
def m__law_sum (x_wheels : (List Int)) (x_one : (List Int)) (x_two : (List Int)) : Option (List Int) := (szL (x_one.zip (x_two.zip x_wheels))).bind fun u106 => (lcF (fun (x107 : (Int × Int × Int)) => (pmod (x107.1 + x107.2.1) x107.2.2).bind fun n108 => some (some n108)) (x_one.zip (x_two.zip x_wheels))).bind fun ys109 => some ys109
def M__law_sum (ds : List D) (d : D) : Prop := ∃ (x_wheels : (List Int)) (x_one : (List Int)) (x_two : (List Int)) (r : (List Int)), ds = [(eT PyData.int) x_wheels, (eT PyData.int) x_one, (eT PyData.int) x_two] ∧ m__law_sum x_wheels x_one x_two = some r ∧ d = (eT PyData.int) r
theorem mk__law_sum {x_wheels : (List Int)} {x_one : (List Int)} {x_two : (List Int)} {r : (List Int)} (h : m__law_sum x_wheels x_one x_two = some r) : M__law_sum [(eT PyData.int) x_wheels, (eT PyData.int) x_one, (eT PyData.int) x_two] ((eT PyData.int) r) := ⟨x_wheels, x_one, x_two, r, rfl, h, rfl⟩
abbrev s__law_sum : Stmt := top 40
theorem sc__law_sum : FnScope ["wheels", "one", "two", "a", "b", "n"] ["wheels", "one", "two"] (defScope s__law_sum) := ⟨rfl, rfl, rfl, by decide +kernel, rfl, by decide +kernel, by decide +kernel⟩
theorem o__law_sum (F : FnP K "_law_sum" s__law_sum f fd) (hm_int : mg "int" = none) (hm_tuple : mg "tuple" = none) (hm_zip : mg "zip" = none) : FnOkG [] P w K mg base CX0 1 f fd ["wheels", "one", "two"] (spF 3 M__law_sum) := by
  refine ok_fn (k := 0) F sc__law_sum rfl (by decide) fun cdv A outer s H E hr ht ds d hM hl => ?_
  obtain ⟨x_wheels, x_one, x_two, r, rfl, h, rfl⟩ := hM
  have nd := sc__law_sum.nd
  unfold m__law_sum at h
  obtain ⟨u106, hu106, g⟩ := obind h; clear h; have h := g; clear g
  obtain ⟨ys109, hys109, g⟩ := obind h; clear h; have h := g; clear g
  obtain rfl := oret h
  exact gs_ret (g_tuple rfl hm_tuple (GL.v (g_lc (ε := (eQ PyData.int PyData.int PyData.int)) (ε' := PyData.int) hys109 (szL_le hu106) rfl nd (own := [("a", 3), ("b", 4), ("n", 5)]) (blkOk_by (by first | rfl | kernel_rfl)) (t_zip3 (xs := x_one) (ys := x_two) (zs := x_wheels) (ε := PyData.int) (η := PyData.int) (θ := PyData.int) hm_zip (g_v 1 rfl) (g_v 2 rfl) (g_v 0 rfl) rfl rfl rfl) (NoOwn.by rfl) (fun x107 hx o h => by obtain ⟨n108, hn108, g⟩ := obind h; clear h; have h := g; clear g; obtain rfl := oret h; exact turn_val (fun B => (gg_tup rfl (ggs_cons (gg_name 3 nd) (ggs_cons (gg_name 4 nd) (ggs_cons (gg_name 5 nd) ggs_nil))))) (fun B => (g_mod hn108 (g_intI hm_int (g_add (g_v 3 rfl) (g_v 4 rfl))) (g_v 5 rfl))))))) (Exists.intro _ rfl)
def m__law_made (x_wheels : (List Int)) (x_items : (List (List Int))) : Option (List (List Int)) := (repOk [(0 : Int)].length (x_wheels.length : Int)).bind fun u101 => (some [(repT (x_wheels.length : Int) [(0 : Int)])]).bind fun v102 => (whF (fun (s103 : (List (List Int)) × Int) => some (decide (s103.2 < (s103.1.length : Int)))) (fun (s103 : (List (List Int)) × Int) => (szL x_items).bind fun u104 => (lcF (fun (x105 : (List Int)) => (idx s103.1 s103.2).bind fun x110 => (m__law_sum x_wheels x110 x105).bind fun r111 => some (some r111)) x_items).bind fun ys112 => (szL ys112).bind fun u113 => (gd (setOk ((ys112.filter (fun (x114 : (List Int)) => (!decide (x114 ∈ s103.1)))).map (fun (x114 : (List Int)) => x114)))).bind fun u115 => (szOk (s103.1.length + (sset ((ys112.filter (fun (x114 : (List Int)) => (!decide (x114 ∈ s103.1)))).map (fun (x114 : (List Int)) => x114))).length)).bind fun u116 => (some (s103.1 ++ (sset ((ys112.filter (fun (x114 : (List Int)) => (!decide (x114 ∈ s103.1)))).map (fun (x114 : (List Int)) => x114))))).bind fun v117 => some (v117, (s103.2 + (1 : Int)))) 100000 (v102, (0 : Int))).bind fun s118 => (gd (srtOk (s118.1.map (eT PyData.int)))).bind fun u119 => some (isort (fun a b => leD ((eT PyData.int) a) ((eT PyData.int) b)) s118.1)
def M__law_made (ds : List D) (d : D) : Prop := ∃ (x_wheels : (List Int)) (x_items : (List (List Int))) (e_items : D) (r : (List (List Int))), sq e_items = some (x_items.map (eT PyData.int)) ∧ ds = [(eT PyData.int) x_wheels, e_items] ∧ m__law_made x_wheels x_items = some r ∧ d = (eT (eT PyData.int)) r
theorem mk__law_made {x_wheels : (List Int)} {x_items : (List (List Int))} {e_items : D} {r : (List (List Int))} (hs_e_items : sq e_items = some (x_items.map (eT PyData.int))) (h : m__law_made x_wheels x_items = some r) : M__law_made [(eT PyData.int) x_wheels, e_items] ((eT (eT PyData.int)) r) := ⟨x_wheels, x_items, e_items, r, hs_e_items, rfl, h, rfl⟩
abbrev s__law_made : Stmt := top 42
theorem sc__law_made : FnScope ["wheels", "items", "found", "k", "fresh", "one"] ["wheels", "items"] (defScope s__law_made) := ⟨rfl, rfl, rfl, by decide +kernel, rfl, by decide +kernel, by decide +kernel⟩
theorem o__law_made (F : FnP K "_law_made" s__law_made f fd) (c__law_sum : CalG [] P w K mg base 1 "_law_sum" (spF 3 M__law_sum) []) (hm_len : mg "len" = none) (hm_set : mg "set" = none) (hm_sorted : mg "sorted" = none) (hm_tuple : mg "tuple" = none) : FnOkG [] P w K mg base CX0 2 f fd ["wheels", "items"] (spF 2 M__law_made) := by
  refine ok_fn (k := 1) F sc__law_made rfl (by decide) fun cdv A outer s H E hr ht ds d hM hl => ?_
  obtain ⟨x_wheels, x_items, e_items, r, hs_e_items, rfl, h, rfl⟩ := hM
  have nd := sc__law_made.nd
  unfold m__law_made at h
  obtain ⟨u101, hu101, g⟩ := obind h; clear h; have h := g; clear g
  obtain ⟨v102, hv102, g⟩ := obind h; clear h; have h := g; clear g
  refine gs_setL 2 nd (GL.cast (ε := (eT PyData.int)) hv102 (g_lst (ga_cons (t_repT (xs := [(0 : Int)]) hu101 (g_tup (ga_cons g_int ga_nil) : GE _ _ _ ((eT PyData.int) [(0 : Int)]) _) (t_len (xs := x_wheels) (ε := PyData.int) hm_len rfl (GE.gv (g_v 0 rfl)))) ga_nil) : GL _ _ _ (List.map (eT PyData.int) [(repT (x_wheels.length : Int) [(0 : Int)])]) _)) ?_
  refine gs_re [.sh ((eT PyData.int) x_wheels), .sh e_items, .ol (v102.map (eT PyData.int)), .any, .any, .any] rfl ?_
  refine gs_set 3 nd g_int ?_
  refine gs_re [.sh ((eT PyData.int) x_wheels), .sh e_items, .ol (v102.map (eT PyData.int)), .sh (PyData.int (0 : Int)), .any, .any] rfl ?_
  obtain ⟨s118, hs118, g⟩ := obind h; clear h; have h := g; clear g
  refine gs_frz 2 rfl ?_
  refine gs_whF (S := (List (List Int)) × Int) (Cs := fun s => [.sh ((eT PyData.int) x_wheels), .sh e_items, .sh ((eL (eT PyData.int)) s.1), .sh (PyData.int s.2), .any, .any]) hs118 (.same (.same (.same (.same (.any (.any .nil)))))) PassesOwn.never (fun s103 k h => by obtain rfl := oret h; exact (gt_cmpE op_lt (g_v 3 rfl) (GE.gv (t_len (xs := s103.1) (ε := (eT PyData.int)) hm_len rfl (GE.gv (g_v 2 rfl)))) v_lt rfl)) (fun s103 s' hc h => ?_) ?_
  · obtain ⟨u104, hu104, g⟩ := obind h; clear h; have h := g; clear g
    obtain ⟨ys112, hys112, g⟩ := obind h; clear h; have h := g; clear g
    refine gs_setLc 4 (ε := (eT PyData.int)) (ε' := (eT PyData.int)) hys112 (szL_le hu104) rfl nd (own := [("one", 5)]) (blkOk_by (by first | rfl | kernel_rfl)) (gi_seq hs_e_items (g_v 1 rfl)) (NoOwn.by rfl) (fun x105 hx o h => by obtain ⟨x110, hx110, g⟩ := obind h; clear h; have h := g; clear g; obtain ⟨r111, hr111, g⟩ := obind h; clear h; have h := g; clear g; obtain rfl := oret h; exact turn_val (fun B => (gg_name 5 nd)) (fun B => (g_call c__law_sum hr tbn (mk__law_sum hr111) (ga_cons (g_v 0 rfl) (ga_cons (t_ix (ε := (eT PyData.int)) (xs := s103.1) hx110 rfl (GE.gv (g_v 2 rfl)) (g_v 3 rfl)) (ga_cons (g_v 5 rfl) ga_nil)))))) ?_
    refine gs_re [.sh ((eT PyData.int) x_wheels), .sh e_items, .sh ((eL (eT PyData.int)) s103.1), .sh (PyData.int s103.2), .ol (ys112.map (eT PyData.int)), .any] rfl ?_
    refine gs_frz 4 rfl ?_
    obtain ⟨u113, hu113, g⟩ := obind h; clear h; have h := g; clear g
    obtain ⟨u115, hu115, g⟩ := obind h; clear h; have h := g; clear g
    obtain ⟨u116, hu116, g⟩ := obind h; clear h; have h := g; clear g
    obtain ⟨v117, hv117, g⟩ := obind h; clear h; have h := g; clear g
    refine gs_setL 2 nd (GL.cast (ε := (eT PyData.int)) hv117 (t_catL hu116 (GE.gv (g_v 2 rfl)) (GL.v (t_sortSet (ks := ((ys112.filter (fun (x114 : (List Int)) => (!decide (x114 ∈ s103.1)))).map (fun (x114 : (List Int)) => x114))) hr rfl (gd_t hu115) rfl hm_set hm_sorted (GL.v (g_lc (ε := (eT PyData.int)) (ε' := (eT PyData.int)) (lcF_filter (f := (fun (x114 : (List Int)) => x114)) (p := (fun (x114 : (List Int)) => (!decide (x114 ∈ s103.1))))) (szL_le hu113) rfl nd (own := [("one", 5)]) (blkOk_by (by first | rfl | kernel_rfl)) (gi_list (g_v 4 rfl)) (NoOwn.by rfl) (fun x114 hx o h => by have h : (bif (!decide (x114 ∈ s103.1)) then some (some x114) else some none) = some o := by { rw [← oret h]; cases (!decide (x114 ∈ s103.1)) <;> rfl }; exact turn_if h (fun B => (gg_name 5 nd)) (fun B => (gt_cmpE (op_notInS hr) (g_v 5 rfl) (GE.gv (g_v 2 rfl)) (v_notInT (Eqv.T Eqv.int) (Sh.T Sh.int) (xs := s103.1) rfl (Sh.shaped (Sh.L (Sh.T Sh.int)) (by decide) s103.1)) rfl)) (fun h => by exact ⟨_, _, (oret h).symm, (fun B => (g_v 5 rfl)), rfl⟩)))))))) ?_
    refine gs_re [.sh ((eT PyData.int) x_wheels), .sh e_items, .ol (v117.map (eT PyData.int)), .sh (PyData.int s103.2), .sh ((eL (eT PyData.int)) ys112), .any] rfl ?_
    refine gs_set 3 nd (g_add (g_v 3 rfl) g_int) ?_
    refine gs_re [.sh ((eT PyData.int) x_wheels), .sh e_items, .ol (v117.map (eT PyData.int)), .sh (PyData.int (s103.2 + (1 : Int))), .sh ((eL (eT PyData.int)) ys112), .any] rfl ?_
    obtain rfl := oret h
    refine gs_frz 2 rfl ?_
    exact gs_end _ (.same (.same (.same (.same (.any (.any .nil)))))) rfl
  obtain ⟨u119, hu119, g⟩ := obind h; clear h; have h := g; clear g
  obtain rfl := oret h
  exact gs_ret (g_tuple rfl hm_tuple (GL.v (t_sorted hr hu119 hm_sorted (GE.gv (g_v 2 rfl))))) (Exists.intro _ rfl)
def m__law_group (x_pool : Pool) (x_wheels : (List Int)) : Option ((List (List Int)) × Pool) := (m__law_all x_wheels).bind fun r100 => (m__law_draw x_pool (3 : Int)).bind fun r120 => (rng 0 r120.1).bind fun ks121 => (lcP (fun (x122 : Int) (p124 : Pool) => (m__law_pick p124 r100).bind fun r125 => some (some (r125.1), r125.2)) ks121 r120.2).bind fun ys126 => (m__law_made x_wheels ys126.1).bind fun r127 => some (r127, ys126.2)
def M__law_group (pd ds : List D) (d : D) (pd' : List D) : Prop := ∃ (x_pool : Pool) (x_wheels : (List Int)) (r : ((List (List Int)) × Pool)), pd = ePool x_pool ∧ ds = [(eT PyData.int) x_wheels] ∧ m__law_group x_pool x_wheels = some r ∧ d = (eT (eT PyData.int)) r.1 ∧ pd' = ePool r.2
theorem mk__law_group {x_pool : Pool} {x_wheels : (List Int)} {r : ((List (List Int)) × Pool)} (h : m__law_group x_pool x_wheels = some r) : M__law_group (ePool x_pool) [(eT PyData.int) x_wheels] ((eT (eT PyData.int)) r.1) (ePool r.2) := ⟨x_pool, x_wheels, r, rfl, rfl, h, rfl, rfl⟩
abbrev s__law_group : Stmt := top 43
theorem sc__law_group : FnScope ["pool", "wheels", "every", "k"] ["pool", "wheels"] (defScope s__law_group) := ⟨rfl, rfl, rfl, by decide +kernel, rfl, by decide +kernel, by decide +kernel⟩
theorem o__law_group (F : FnP K "_law_group" s__law_group f fd) (c__law_all : CalG [] P w K mg base 1 "_law_all" (spF 1 M__law_all) []) (c__law_made : CalG [] P w K mg base 2 "_law_made" (spF 2 M__law_made) []) (c__law_draw : CalG [] P w K mg base 2 "_law_draw" (spP 2 M__law_draw) []) (c__law_pick : CalG [] P w K mg base 3 "_law_pick" (spP 2 M__law_pick) []) (hm_range : mg "range" = none) : FnOkG [] P w K mg base CX0 4 f fd ["pool", "wheels"] (spP 2 M__law_group) := by
  refine ok_fnP (k := 3) F sc__law_group rfl (by decide) fun cdv A outer s H E hr ht q pd ds d pd' hM hl => ?_
  obtain ⟨x_pool, x_wheels, r, rfl, rfl, h, rfl, rfl⟩ := hM
  have nd := sc__law_group.nd
  unfold m__law_group at h
  obtain ⟨r100, hr100, g⟩ := obind h; clear h; have h := g; clear g
  refine gs_set 2 nd (g_call c__law_all hr tbn (mk__law_all hr100) (ga_cons (g_v 1 rfl) ga_nil)) ?_
  obtain ⟨r120, hr120, g⟩ := obind h; clear h; have h := g; clear g
  obtain ⟨ks121, hks121, g⟩ := obind h; clear h; have h := g; clear g
  obtain ⟨ys126, hys126, g⟩ := obind h; clear h; have h := g; clear g
  obtain ⟨r127, hr127, g⟩ := obind h; clear h; have h := g; clear g
  obtain rfl := oret h
  exact gs_ret (g_call c__law_made hr tbn (mk__law_made rfl hr127) (ga_cons (g_v 1 rfl) (ga_cons (GL.ge (g_lcP (ε := PyData.int) (ε' := (eT PyData.int)) (Cp := fun (s : Pool) => [.op q (ePool s), .sh ((eT PyData.int) x_wheels), .sh ((eL (eT PyData.int)) r100), .any]) (pair_of hys126) (rng_spec hks121).2.2.2 rfl nd (own := [("k", 3)]) (blkOk_by (by first | rfl | kernel_rfl)) (GI.re (t_range1 hks121 hm_range (g_callP 0 c__law_draw hr tbn rfl rfl (ga_cons g_int ga_nil) rfl rfl (mk__law_draw hr120))) rfl) (fun p => NoOwn.by rfl) (fun p => rfl) (fun p i hi => by simp at hi; subst hi; rfl) (fun x122 hx p124 o p2 h => by obtain ⟨r125, hr125, g⟩ := obind h; clear h; have h := g; clear g; obtain ⟨rfl, rfl⟩ := Prod.mk.inj (oret h); exact turn_val (fun B => (gg_name 3 nd)) (fun B => (g_callP 0 c__law_pick hr tbn rfl rfl (ga_cons (g_v 2 rfl) ga_nil) rfl rfl (mk__law_pick (ε := (eT PyData.int)) (xs := r100) rfl hr125)))))) ga_nil))) (Exists.intro _ (And.intro rfl rfl))
def m_size_of (x_wheels : (List Int)) : Option Int := (forF (fun (x132 : Int) (s131 : Int) => (pmul s131 x132).bind fun n133 => some (n133)) x_wheels ((1 : Int))).bind fun s134 => some s134
def M_size_of (ds : List D) (d : D) : Prop := ∃ (x_wheels : (List Int)) (r : Int), ds = [(eT PyData.int) x_wheels] ∧ m_size_of x_wheels = some r ∧ d = PyData.int r
theorem mk_size_of {x_wheels : (List Int)} {r : Int} (h : m_size_of x_wheels = some r) : M_size_of [(eT PyData.int) x_wheels] (PyData.int r) := ⟨x_wheels, r, rfl, h, rfl⟩
abbrev s_size_of : Stmt := top 8
theorem sc_size_of : FnScope ["wheels", "found", "number"] ["wheels"] (defScope s_size_of) := ⟨rfl, rfl, rfl, by decide +kernel, rfl, by decide +kernel, by decide +kernel⟩
theorem o_size_of (F : FnP K "size_of" s_size_of f fd) : FnOkG [] P w K mg base CX0 1 f fd ["wheels"] (spF 1 M_size_of) := by
  refine ok_fn (k := 0) F sc_size_of rfl (by decide) fun cdv A outer s H E hr ht ds d hM hl => ?_
  obtain ⟨x_wheels, r, rfl, h, rfl⟩ := hM
  have nd := sc_size_of.nd
  unfold m_size_of at h
  refine gs_set 1 nd g_int ?_
  obtain ⟨s134, hs134, g⟩ := obind h; clear h; have h := g; clear g
  refine gs_forF (S := Int) (ε := PyData.int) (Cs := fun s => [.sh ((eT PyData.int) x_wheels), .sh (PyData.int s), .any]) (Cx := fun x s => [.sh ((eT PyData.int) x_wheels), .sh (PyData.int s), .sh (PyData.int x)]) (is := [2]) hs134 (gi_tup (g_v 0 rfl)) (.same (.same (.any .nil))) PassesOwn.never rfl (fun x s => (gg_name 2 nd)) (fun x132 hx s131 s' h => ?_) ?_
  · obtain ⟨n133, hn133, g⟩ := obind h; clear h; have h := g; clear g
    refine gs_augMul 1 hn133 nd rfl (g_v 2 rfl) ?_
    obtain rfl := oret h
    exact gs_end _ (.same (.same (.any .nil))) rfl
  obtain rfl := oret h
  exact gs_ret (g_v 1 rfl) (Exists.intro _ rfl)
def m_elements_of (x_wheels : (List Int)) : Option (List (List Int)) := (m_size_of x_wheels).bind fun r135 => bif (decide ((200 : Int) < r135)) then none else (forF (fun (x137 : Int) (s136 : (List (List Int))) => (lc2F (fun (x138 : (List Int)) => (rng 0 x137).bind fun ks139 => some ks139) (fun (x138 : (List Int)) (y140 : Int) => (szOk (x138.length + [y140].length)).bind fun u141 => some (some (x138 ++ [y140]))) s136).bind fun ys142 => (szL ys142).bind fun u143 => some (ys142)) x_wheels ([[]])).bind fun s144 => some s144
def M_elements_of (ds : List D) (d : D) : Prop := ∃ (x_wheels : (List Int)) (r : (List (List Int))), ds = [(eT PyData.int) x_wheels] ∧ m_elements_of x_wheels = some r ∧ d = (eL (eT PyData.int)) r
theorem mk_elements_of {x_wheels : (List Int)} {r : (List (List Int))} (h : m_elements_of x_wheels = some r) : M_elements_of [(eT PyData.int) x_wheels] ((eL (eT PyData.int)) r) := ⟨x_wheels, r, rfl, h, rfl⟩
abbrev s_elements_of : Stmt := top 10
theorem sc_elements_of : FnScope ["wheels", "rows", "number", "row", "x"] ["wheels"] (defScope s_elements_of) := ⟨rfl, rfl, rfl, by decide +kernel, rfl, by decide +kernel, by decide +kernel⟩
theorem o_elements_of {t_MOST_ELEMENTS : Tok} (F : FnP K "elements_of" s_elements_of f fd) (c_size_of : CalG [] P w K mg base 1 "size_of" (spF 1 M_size_of) []) (hm_range : mg "range" = none) (hk_MOST_ELEMENTS : mg "MOST_ELEMENTS" = some (Value.int 200 t_MOST_ELEMENTS)) : FnOkG [] P w K mg base CX0 2 f fd ["wheels"] (spF 1 M_elements_of) := by
  refine ok_fn (k := 1) F sc_elements_of rfl (by decide) fun cdv A outer s H E hr ht ds d hM hl => ?_
  obtain ⟨x_wheels, r, rfl, h, rfl⟩ := hM
  have nd := sc_elements_of.nd
  unfold m_elements_of at h
  obtain ⟨r135, hr135, g⟩ := obind h; clear h; have h := g; clear g
  refine gs_ifC h (gt_cmpE op_gt (g_call c_size_of hr tbn (mk_size_of hr135) (ga_cons (g_v 0 rfl) ga_nil)) (GE.gv (g_globI hk_MOST_ELEMENTS)) v_gt rfl) (fun h => ?_) (fun h => ?_)
  · cases h
  · refine gs_nil ?_
    show GS _ _ _ _
    refine gs_setL 1 nd (g_lst (ga_cons (g_tup ga_nil : GE _ _ _ ((eT PyData.int) []) _) ga_nil) : GL _ _ _ (List.map (eT PyData.int) [[]]) _) ?_
    obtain ⟨s144, hs144, g⟩ := obind h; clear h; have h := g; clear g
    refine gs_frz 1 rfl ?_
    refine gs_forF (S := (List (List Int))) (ε := PyData.int) (Cs := fun s => [.sh ((eT PyData.int) x_wheels), .sh ((eL (eT PyData.int)) s), .any, .any, .any]) (Cx := fun x s => [.sh ((eT PyData.int) x_wheels), .sh ((eL (eT PyData.int)) s), .sh (PyData.int x), .any, .any]) (is := [2]) hs144 (gi_tup (g_v 0 rfl)) (.same (.same (.any (.any (.any .nil))))) PassesOwn.never rfl (fun x s => (gg_name 2 nd)) (fun x137 hx s136 s' h => ?_) ?_
    · obtain ⟨ys142, hys142, g⟩ := obind h; clear h; have h := g; clear g
      obtain ⟨u143, hu143, g⟩ := obind h; clear h; have h := g; clear g
      refine gs_setLc2 1 (ε := (eT PyData.int)) (ε1 := PyData.int) (ε' := (eT PyData.int)) [4] hys142 (szL_le hu143) rfl nd (own := [("row", 3), ("x", 4)]) (blkOk_by (by first | rfl | kernel_rfl)) (gi_list (g_v 1 rfl)) (NoOwn.by rfl) (fun x138 hx us h => by obtain ⟨ks139, hks139, g⟩ := obind h; clear h; have h := g; clear g; obtain rfl := oret h; exact ⟨_, _, (fun B => (gg_name 3 nd)), (by decide), (fun B => (t_range1 hks139 hm_range (g_v 2 rfl))), NoOwn.by rfl, (fun y140 hy o h => by obtain ⟨u141, hu141, g⟩ := obind h; clear h; have h := g; clear g; obtain rfl := oret h; exact turn_val (fun B => (gg_name 4 nd)) (fun B => (t_catT (xs := x138) (ys := [y140]) hu141 (g_v 3 rfl) (g_tup (ga_cons (g_v 4 rfl) ga_nil) : GE _ _ _ ((eT PyData.int) [y140]) _)))), rfl⟩) ?_
      obtain rfl := oret h
      refine gs_frz 1 rfl ?_
      exact gs_end _ (.same (.same (.any (.any (.any .nil))))) rfl
    obtain rfl := oret h
    exact gs_ret (g_v 1 rfl) (Exists.intro _ rfl)
def m_nought (x_wheels : (List Int)) : Option (List Int) := (repOk [(0 : Int)].length (x_wheels.length : Int)).bind fun u162 => some (repT (x_wheels.length : Int) [(0 : Int)])
def M_nought (ds : List D) (d : D) : Prop := ∃ (x_wheels : (List Int)) (r : (List Int)), ds = [(eT PyData.int) x_wheels] ∧ m_nought x_wheels = some r ∧ d = (eT PyData.int) r
theorem mk_nought {x_wheels : (List Int)} {r : (List Int)} (h : m_nought x_wheels = some r) : M_nought [(eT PyData.int) x_wheels] ((eT PyData.int) r) := ⟨x_wheels, r, rfl, h, rfl⟩
abbrev s_nought : Stmt := top 13
theorem sc_nought : FnScope ["wheels"] ["wheels"] (defScope s_nought) := ⟨rfl, rfl, rfl, by decide +kernel, rfl, by decide +kernel, by decide +kernel⟩
theorem o_nought (F : FnP K "nought" s_nought f fd) (hm_len : mg "len" = none) : FnOkG [] P w K mg base CX0 1 f fd ["wheels"] (spF 1 M_nought) := by
  refine ok_fn (k := 0) F sc_nought rfl (by decide) fun cdv A outer s H E hr ht ds d hM hl => ?_
  obtain ⟨x_wheels, r, rfl, h, rfl⟩ := hM
  have nd := sc_nought.nd
  unfold m_nought at h
  obtain ⟨u162, hu162, g⟩ := obind h; clear h; have h := g; clear g
  obtain rfl := oret h
  exact gs_ret (t_repT (xs := [(0 : Int)]) hu162 (g_tup (ga_cons g_int ga_nil) : GE _ _ _ ((eT PyData.int) [(0 : Int)]) _) (t_len (xs := x_wheels) (ε := PyData.int) hm_len rfl (GE.gv (g_v 0 rfl)))) (Exists.intro _ rfl)
def m_plus (x_wheels : (List Int)) (x_one : (List Int)) (x_two : (List Int)) : Option (List Int) := (szL (x_one.zip (x_two.zip x_wheels))).bind fun u168 => (lcF (fun (x169 : (Int × Int × Int)) => (pmod (x169.1 + x169.2.1) x169.2.2).bind fun n170 => some (some n170)) (x_one.zip (x_two.zip x_wheels))).bind fun ys171 => some ys171
def M_plus (ds : List D) (d : D) : Prop := ∃ (x_wheels : (List Int)) (x_one : (List Int)) (x_two : (List Int)) (r : (List Int)), ds = [(eT PyData.int) x_wheels, (eT PyData.int) x_one, (eT PyData.int) x_two] ∧ m_plus x_wheels x_one x_two = some r ∧ d = (eT PyData.int) r
theorem mk_plus {x_wheels : (List Int)} {x_one : (List Int)} {x_two : (List Int)} {r : (List Int)} (h : m_plus x_wheels x_one x_two = some r) : M_plus [(eT PyData.int) x_wheels, (eT PyData.int) x_one, (eT PyData.int) x_two] ((eT PyData.int) r) := ⟨x_wheels, x_one, x_two, r, rfl, h, rfl⟩
abbrev s_plus : Stmt := top 11
theorem sc_plus : FnScope ["wheels", "one", "two", "a", "b", "number"] ["wheels", "one", "two"] (defScope s_plus) := ⟨rfl, rfl, rfl, by decide +kernel, rfl, by decide +kernel, by decide +kernel⟩
theorem o_plus (F : FnP K "plus" s_plus f fd) (hm_tuple : mg "tuple" = none) (hm_zip : mg "zip" = none) : FnOkG [] P w K mg base CX0 1 f fd ["wheels", "one", "two"] (spF 3 M_plus) := by
  refine ok_fn (k := 0) F sc_plus rfl (by decide) fun cdv A outer s H E hr ht ds d hM hl => ?_
  obtain ⟨x_wheels, x_one, x_two, r, rfl, h, rfl⟩ := hM
  have nd := sc_plus.nd
  unfold m_plus at h
  obtain ⟨u168, hu168, g⟩ := obind h; clear h; have h := g; clear g
  obtain ⟨ys171, hys171, g⟩ := obind h; clear h; have h := g; clear g
  obtain rfl := oret h
  exact gs_ret (g_tuple rfl hm_tuple (GL.v (g_lc (ε := (eQ PyData.int PyData.int PyData.int)) (ε' := PyData.int) hys171 (szL_le hu168) rfl nd (own := [("a", 3), ("b", 4), ("number", 5)]) (blkOk_by (by first | rfl | kernel_rfl)) (t_zip3 (xs := x_one) (ys := x_two) (zs := x_wheels) (ε := PyData.int) (η := PyData.int) (θ := PyData.int) hm_zip (g_v 1 rfl) (g_v 2 rfl) (g_v 0 rfl) rfl rfl rfl) (NoOwn.by rfl) (fun x169 hx o h => by obtain ⟨n170, hn170, g⟩ := obind h; clear h; have h := g; clear g; obtain rfl := oret h; exact turn_val (fun B => (gg_tup rfl (ggs_cons (gg_name 3 nd) (ggs_cons (gg_name 4 nd) (ggs_cons (gg_name 5 nd) ggs_nil))))) (fun B => (g_mod hn170 (g_add (g_v 3 rfl) (g_v 4 rfl)) (g_v 5 rfl))))))) (Exists.intro _ rfl)
def m_made_by (x_wheels : (List Int)) (x_items : (List (List Int))) : Option (List (List Int)) := (m_nought x_wheels).bind fun r163 => (idx [r163] (0 : Int)).bind fun x164 => (whF (fun (s165 : (List (List Int)) × (List ((List Int) × Bool)) × Int) => some (decide (s165.2.2 < (s165.1.length : Int)))) (fun (s165 : (List (List Int)) × (List ((List Int) × Bool)) × Int) => (forF (fun (x167 : (List Int)) (s166 : (List (List Int)) × (List ((List Int) × Bool))) => (idx s166.1 s165.2.2).bind fun x172 => (m_plus x_wheels x172 x167).bind fun r173 => (bif (!(dget s166.2 r173).isSome) then (szOk (s166.2.length + 1)).bind fun u177 => (szOk (s166.1.length + 1)).bind fun u178 => some ((s166.1 ++ [r173]), (dput s166.2 r173 true)) else some (s166.1, s166.2)).bind fun (s176 : (List (List Int)) × (List ((List Int) × Bool))) => some (s176.1, s176.2)) x_items (s165.1, s165.2.1)).bind fun s179 => some (s179.1, s179.2, (s165.2.2 + (1 : Int)))) 100000 ([r163], [(x164, true)], (0 : Int))).bind fun s180 => (gd (srtOk (s180.1.map (eT PyData.int)))).bind fun u181 => some (isort (fun a b => leD ((eT PyData.int) a) ((eT PyData.int) b)) s180.1)
def M_made_by (ds : List D) (d : D) : Prop := ∃ (x_wheels : (List Int)) (x_items : (List (List Int))) (r : (List (List Int))), ds = [(eT PyData.int) x_wheels, (eT (eT PyData.int)) x_items] ∧ m_made_by x_wheels x_items = some r ∧ d = (eT (eT PyData.int)) r
theorem mk_made_by {x_wheels : (List Int)} {x_items : (List (List Int))} {r : (List (List Int))} (h : m_made_by x_wheels x_items = some r) : M_made_by [(eT PyData.int) x_wheels, (eT (eT PyData.int)) x_items] ((eT (eT PyData.int)) r) := ⟨x_wheels, x_items, r, rfl, h, rfl⟩
abbrev s_made_by : Stmt := top 18
theorem sc_made_by : FnScope ["wheels", "items", "found", "seen", "at", "one", "other"] ["wheels", "items"] (defScope s_made_by) := ⟨rfl, rfl, rfl, by decide +kernel, rfl, by decide +kernel, by decide +kernel⟩
theorem o_made_by (F : FnP K "made_by" s_made_by f fd) (c_nought : CalG [] P w K mg base 1 "nought" (spF 1 M_nought) []) (c_plus : CalG [] P w K mg base 1 "plus" (spF 3 M_plus) []) (hm_len : mg "len" = none) (hm_sorted : mg "sorted" = none) (hm_tuple : mg "tuple" = none) : FnOkG [] P w K mg base CX0 2 f fd ["wheels", "items"] (spF 2 M_made_by) := by
  refine ok_fn (k := 1) F sc_made_by rfl (by decide) fun cdv A outer s H E hr ht ds d hM hl => ?_
  obtain ⟨x_wheels, x_items, r, rfl, h, rfl⟩ := hM
  have nd := sc_made_by.nd
  unfold m_made_by at h
  obtain ⟨r163, hr163, g⟩ := obind h; clear h; have h := g; clear g
  refine gs_setL 2 nd (g_lst (ga_cons (g_call c_nought hr tbn (mk_nought hr163) (ga_cons (g_v 0 rfl) ga_nil)) ga_nil) : GL _ _ _ (List.map (eT PyData.int) [r163]) _) ?_
  refine gs_re [.sh ((eT PyData.int) x_wheels), .sh ((eT (eT PyData.int)) x_items), .ol ([r163].map (eT PyData.int)), .any, .any, .any, .any] rfl ?_
  obtain ⟨x164, hx164, g⟩ := obind h; clear h; have h := g; clear g
  refine t_ndisp (ε := (eT PyData.int)) (η := PyData.bool) (k := x164) (v := true) 3 (NKE.T NKE.int) hr nd (t_ix (ε := (eT PyData.int)) (xs := [r163]) hx164 rfl (g_vo 2 rfl) g_int) g_bl ?_
  refine gs_re [.sh ((eT PyData.int) x_wheels), .sh ((eT (eT PyData.int)) x_items), .ol ([r163].map (eT PyData.int)), .ob (nkS P w (eN (nkT NestedKey.num) PyData.bool [(x164, true)])), .any, .any, .any] rfl ?_
  refine gs_set 4 nd g_int ?_
  refine gs_re [.sh ((eT PyData.int) x_wheels), .sh ((eT (eT PyData.int)) x_items), .ol ([r163].map (eT PyData.int)), .ob (nkS P w (eN (nkT NestedKey.num) PyData.bool [(x164, true)])), .sh (PyData.int (0 : Int)), .any, .any] rfl ?_
  obtain ⟨s180, hs180, g⟩ := obind h; clear h; have h := g; clear g
  refine gs_whF (S := (List (List Int)) × (List ((List Int) × Bool)) × Int) (Cs := fun s => [.sh ((eT PyData.int) x_wheels), .sh ((eT (eT PyData.int)) x_items), .ol (s.1.map (eT PyData.int)), .ob (nkS P w (eN (nkT NestedKey.num) PyData.bool s.2.1)), .sh (PyData.int s.2.2), .any, .any]) hs180 (.same (.same (.same (.same (.same (.any (.any .nil))))))) PassesOwn.never (fun s165 k h => by obtain rfl := oret h; exact (gt_cmpE op_lt (g_v 4 rfl) (GE.gv (t_len (xs := s165.1) (ε := (eT PyData.int)) hm_len rfl (g_vo 2 rfl))) v_lt rfl)) (fun s165 s' hc h => ?_) ?_
  · obtain ⟨s179, hs179, g⟩ := obind h; clear h; have h := g; clear g
    refine gs_forF (S := (List (List Int)) × (List ((List Int) × Bool))) (ε := (eT PyData.int)) (Cs := fun s => [.sh ((eT PyData.int) x_wheels), .sh ((eT (eT PyData.int)) x_items), .ol (s.1.map (eT PyData.int)), .ob (nkS P w (eN (nkT NestedKey.num) PyData.bool s.2)), .sh (PyData.int s165.2.2), .any, .any]) (Cx := fun x s => [.sh ((eT PyData.int) x_wheels), .sh ((eT (eT PyData.int)) x_items), .ol (s.1.map (eT PyData.int)), .ob (nkS P w (eN (nkT NestedKey.num) PyData.bool s.2)), .sh (PyData.int s165.2.2), .sh ((eT PyData.int) x), .any]) (is := [5]) hs179 (gi_tup (g_v 1 rfl)) (.same (.same (.same (.same (.same (.any (.any .nil))))))) PassesOwn.never rfl (fun x s => (gg_name 5 nd)) (fun x167 hx s166 s' h => ?_) ?_
    · obtain ⟨x172, hx172, g⟩ := obind h; clear h; have h := g; clear g
      obtain ⟨r173, hr173, g⟩ := obind h; clear h; have h := g; clear g
      refine gs_set 6 nd (g_call c_plus hr tbn (mk_plus hr173) (ga_cons (g_v 0 rfl) (ga_cons (t_ix (ε := (eT PyData.int)) (xs := s166.1) hx172 rfl (g_vo 2 rfl) (g_v 4 rfl)) (ga_cons (g_v 5 rfl) ga_nil)))) ?_
      refine gs_re [.sh ((eT PyData.int) x_wheels), .sh ((eT (eT PyData.int)) x_items), .ol (s166.1.map (eT PyData.int)), .ob (nkS P w (eN (nkT NestedKey.num) PyData.bool s166.2)), .sh (PyData.int s165.2.2), .sh ((eT PyData.int) x167), .sh ((eT PyData.int) r173)] rfl ?_
      obtain ⟨s176, hs176, g⟩ := obind h; clear h; have h := g; clear g
      refine gs_ifJ (S := (List (List Int)) × (List ((List Int) × Bool))) (Cj := fun s => [.sh ((eT PyData.int) x_wheels), .sh ((eT (eT PyData.int)) x_items), .ol (s.1.map (eT PyData.int)), .ob (nkS P w (eN (nkT NestedKey.num) PyData.bool s.2)), .sh (PyData.int s165.2.2), .sh ((eT PyData.int) x167), .sh ((eT PyData.int) r173)]) hs176 (t_nnotin (ε := (eT PyData.int)) (η := PyData.bool) (kvs := s166.2) (k := r173) 3 (NKE.T NKE.int) hr rfl (g_v 6 rfl)) (fun h => ?_) (fun h => ?_) ?_
      · obtain ⟨u177, hu177, g⟩ := obind h; clear h; have h := g; clear g
        refine t_nput (ε := (eT PyData.int)) (η := PyData.bool) (v := true) (k := r173) 3 (NKE.T NKE.int) hr hu177 g_bl rfl (g_v 6 rfl) ?_
        refine gs_re [.sh ((eT PyData.int) x_wheels), .sh ((eT (eT PyData.int)) x_items), .ol (s166.1.map (eT PyData.int)), .ob (nkS P w (eN (nkT NestedKey.num) PyData.bool (dput s166.2 r173 true))), .sh (PyData.int s165.2.2), .sh ((eT PyData.int) x167), .sh ((eT PyData.int) r173)] rfl ?_
        obtain ⟨u178, hu178, g⟩ := obind h; clear h; have h := g; clear g
        refine gs_expr (t_append 2 hu178 rfl (g_v 6 rfl) rfl) ?_
        obtain rfl := oret h
        exact gs_end _ (.same (.same (.same (.same (.same (.same (.same .nil))))))) rfl
      · obtain rfl := oret h
        exact gs_end _ (.same (.same (.same (.same (.same (.same (.same .nil))))))) rfl
      obtain rfl := oret h
      exact gs_end _ (.same (.same (.same (.same (.same (.any (.any .nil))))))) rfl
    refine gs_augAdd 4 nd rfl g_int ?_
    obtain rfl := oret h
    exact gs_end _ (.same (.same (.same (.same (.same (.any (.any .nil))))))) rfl
  obtain ⟨u181, hu181, g⟩ := obind h; clear h; have h := g; clear g
  obtain rfl := oret h
  exact gs_ret (g_tuple rfl hm_tuple (GL.v (t_sorted hr hu181 hm_sorted (g_vo 2 rfl)))) (Exists.intro _ rfl)
def m_is_within (x_wheels : (List Int)) (x_value : D) : Option Bool := (oor (!(isA "tuple" x_value)) ((sq x_value).bind fun ds129 => some (decide ((ds129.length : Int) = (0 : Int))))).bind fun b130 => bif b130 then some false else (m_elements_of x_wheels).bind fun r145 => (sq x_value).bind fun ds146 => (szL ds146).bind fun u147 => (lcF (fun (x148 : D) => (oand (isA "tuple" x148) ((gd (okR x148)).bind fun u149 => (szL r145).bind fun u150 => (lcF (fun (x151 : (List Int)) => (gd (okR ((eT PyData.int) x151))).bind fun u152 => some (some ((((eT PyData.int) x151)).shown))) r145).bind fun ys153 => (gd (SeqAt.shaped (PyData.str ((x148).shown)))).bind fun u154 => (gd (SeqAt.shaped ((eL PyData.str) ys153))).bind fun u155 => some (decide ((x148).shown ∈ ys153)))).bind fun b156 => some (some b156)) ds146).bind fun ys157 => bif (!(ys157.all id)) then some false else (sq x_value).bind fun ds158 => (toTW x_value).bind fun w159 => (gd (setOk w159)).bind fun u160 => (gdS ((eL eD) ds158) ((eL (eT PyData.int)) (sset w159))).bind fun u161 => (oand (PyData.eqv ((eL eD) ds158) ((eL (eT PyData.int)) (sset w159))) ((toTW x_value).bind fun w182 => (m_made_by x_wheels w182).bind fun r183 => (gdS ((eT (eT PyData.int)) r183) x_value).bind fun u184 => some (PyData.eqv ((eT (eT PyData.int)) r183) x_value))).bind fun b185 => some b185
def M_is_within (ds : List D) (d : D) : Prop := ∃ (x_wheels : (List Int)) (x_value : D) (r : Bool), ds = [(eT PyData.int) x_wheels, eD x_value] ∧ m_is_within x_wheels x_value = some r ∧ d = PyData.bool r
theorem mk_is_within {x_wheels : (List Int)} {x_value : D} {r : Bool} (h : m_is_within x_wheels x_value = some r) : M_is_within [(eT PyData.int) x_wheels, eD x_value] (PyData.bool r) := ⟨x_wheels, x_value, r, rfl, h, rfl⟩
abbrev s_is_within : Stmt := top 19
theorem sc_is_within : FnScope ["wheels", "value", "whole", "x", "y"] ["wheels", "value"] (defScope s_is_within) := ⟨rfl, rfl, rfl, by decide +kernel, rfl, by decide +kernel, by decide +kernel⟩
theorem o_is_within (F : FnP K "is_within" s_is_within f fd) (c_elements_of : CalG [] P w K mg base 2 "elements_of" (spF 1 M_elements_of) []) (c_made_by : CalG [] P w K mg base 2 "made_by" (spF 2 M_made_by) []) (hm_all : mg "all" = none) (hm_isinstance : mg "isinstance" = none) (hm_len : mg "len" = none) (hm_list : mg "list" = none) (hm_repr : mg "repr" = none) (hm_set : mg "set" = none) (hm_sorted : mg "sorted" = none) (hm_tuple : mg "tuple" = none) : FnOkG [] P w K mg base CX0 3 f fd ["wheels", "value"] (spF 2 M_is_within) := by
  refine ok_fn (k := 2) F sc_is_within rfl (by decide) fun cdv A outer s H E hr ht ds d hM hl => ?_
  obtain ⟨x_wheels, x_value, r, rfl, h, rfl⟩ := hM
  have nd := sc_is_within.nd
  unfold m_is_within at h
  obtain ⟨b130, hb130, g⟩ := obind h; clear h; have h := g; clear g
  refine gs_ifC h (GW.gt (w_orO hb130 (gt_not (gt_val (g_isi (T := "tuple") (by decide +kernel) (by decide +kernel) hm_isinstance hm_tuple (GE.gv (g_v 1 rfl))))) (fun h => by obtain ⟨ds129, hds129, g⟩ := obind h; clear h; have h := g; clear g; obtain rfl := oret h; exact (gw_or1 (gt_cmp op_eq (GE.gv (g_len hm_len hds129 (GE.gv (g_v 1 rfl)))) (GE.gv g_int) v_eqI rfl))))) (fun h => ?_) (fun h => ?_)
  · obtain rfl := oret h
    exact gs_ret g_bl (Exists.intro _ rfl)
  · refine gs_nil ?_
    show GS _ _ _ _
    obtain ⟨r145, hr145, g⟩ := obind h; clear h; have h := g; clear g
    refine gs_set 2 nd (g_call c_elements_of hr tbn (mk_elements_of hr145) (ga_cons (g_v 0 rfl) ga_nil)) ?_
    obtain ⟨ds146, hds146, g⟩ := obind h; clear h; have h := g; clear g
    obtain ⟨u147, hu147, g⟩ := obind h; clear h; have h := g; clear g
    obtain ⟨ys157, hys157, g⟩ := obind h; clear h; have h := g; clear g
    refine gs_ifC h (gt_not (gt_val (g_all rfl hm_all (GL.v (g_lc (ε := eD) (ε' := PyData.bool) hys157 (szL_le hu147) rfl nd (own := [("x", 3)]) (blkOk_by (by first | rfl | kernel_rfl)) (by rw [eD_map]; exact gi_seq hds146 (g_v 1 rfl)) (NoOwn.by rfl) (fun x148 hx o h => by obtain ⟨b156, hb156, g⟩ := obind h; clear h; have h := g; clear g; obtain rfl := oret h; exact turn_val (fun B => (gg_name 3 nd)) (fun B => (b_andO hb156 (g_isi (T := "tuple") (by decide +kernel) (by decide +kernel) hm_isinstance hm_tuple (GE.gv (g_v 3 rfl))) (fun h => by obtain ⟨u149, hu149, g⟩ := obind h; clear h; have h := g; clear g; obtain ⟨u150, hu150, g⟩ := obind h; clear h; have h := g; clear g; obtain ⟨ys153, hys153, g⟩ := obind h; clear h; have h := g; clear g; obtain ⟨u154, hu154, g⟩ := obind h; clear h; have h := g; clear g; obtain ⟨u155, hu155, g⟩ := obind h; clear h; have h := g; clear g; obtain rfl := oret h; exact (g_one (g_cmpE (op_inS hr) (g_repr hr (gd_t hu149) hm_repr (g_v 3 rfl)) (GL.v (g_lc (ε := (eT PyData.int)) (ε' := PyData.str) hys153 (szL_le hu150) rfl nd (own := [("y", 4)]) (blkOk_by (by first | rfl | kernel_rfl)) (gi_list (g_v 2 rfl)) (NoOwn.by rfl) (fun x151 hx o h => by obtain ⟨u152, hu152, g⟩ := obind h; clear h; have h := g; clear g; obtain rfl := oret h; exact turn_val (fun B => (gg_name 4 nd)) (fun B => (g_repr hr (gd_t hu152) hm_repr (g_v 4 rfl)))))) (v_inStr (xs := ys153) (gd_t hu154) rfl (gd_t hu155)) rfl))))))))))) (fun h => ?_) (fun h => ?_)
    · obtain rfl := oret h
      exact gs_ret g_bl (Exists.intro _ rfl)
    · refine gs_nil ?_
      show GS _ _ _ _
      obtain ⟨ds158, hds158, g⟩ := obind h; clear h; have h := g; clear g
      obtain ⟨w159, hw159, g⟩ := obind h; clear h; have h := g; clear g
      obtain ⟨u160, hu160, g⟩ := obind h; clear h; have h := g; clear g
      obtain ⟨u161, hu161, g⟩ := obind h; clear h; have h := g; clear g
      obtain ⟨b185, hb185, g⟩ := obind h; clear h; have h := g; clear g
      obtain rfl := oret h
      exact gs_ret (b_andO hb185 (g_cmp (op_eqD (un64 hr)) (GL.v (by rw [eD_map]; exact g_list hds158 hm_list (GE.gv (g_v 1 rfl)))) (GL.v (t_sortSet (ks := w159) hr rfl (gd_t hu160) rfl hm_set hm_sorted (GE.gv (GE.toTW hw159 (g_v 1 rfl))))) (v_eqG hu161) rfl) (fun h => by obtain ⟨w182, hw182, g⟩ := obind h; clear h; have h := g; clear g; obtain ⟨r183, hr183, g⟩ := obind h; clear h; have h := g; clear g; obtain ⟨u184, hu184, g⟩ := obind h; clear h; have h := g; clear g; obtain rfl := oret h; exact (g_one (g_cmp (op_eqD (un64 hr)) (GE.gv (g_call c_made_by hr tbn (mk_made_by hr183) (ga_cons (g_v 0 rfl) (ga_cons (GE.toTW hw182 (g_v 1 rfl)) ga_nil)))) (GE.gv (g_v 1 rfl)) (v_eqG hu184) rfl)))) (Exists.intro _ rfl)
def m_need_within (x_wheels : (List Int)) (x_group : (List (List Int))) : Option Unit := (m_is_within x_wheels ((eT (eT PyData.int)) x_group)).bind fun r186 => bif (!r186) then none else some ()
def M_need_within (ds : List D) (d : D) : Prop := ∃ (x_wheels : (List Int)) (x_group : (List (List Int))) (r : Unit), ds = [(eT PyData.int) x_wheels, (eT (eT PyData.int)) x_group] ∧ m_need_within x_wheels x_group = some r ∧ d = eU r
theorem mk_need_within {x_wheels : (List Int)} {x_group : (List (List Int))} {r : Unit} (h : m_need_within x_wheels x_group = some r) : M_need_within [(eT PyData.int) x_wheels, (eT (eT PyData.int)) x_group] (eU r) := ⟨x_wheels, x_group, r, rfl, h, rfl⟩
abbrev s_need_within : Stmt := top 21
theorem sc_need_within : FnScope ["wheels", "group"] ["wheels", "group"] (defScope s_need_within) := ⟨rfl, rfl, rfl, by decide +kernel, rfl, by decide +kernel, by decide +kernel⟩
theorem o_need_within (F : FnP K "need_within" s_need_within f fd) (c_is_within : CalG [] P w K mg base 3 "is_within" (spF 2 M_is_within) []) : FnOkG [] P w K mg base CX0 4 f fd ["wheels", "group"] (spF 2 M_need_within) := by
  refine ok_fn0 (k := 3) F sc_need_within rfl (by decide) fun cdv A outer s H E hr ht ds d hM hl => ?_
  obtain ⟨x_wheels, x_group, r, rfl, h, rfl⟩ := hM
  have nd := sc_need_within.nd
  refine ⟨rfl, ?_⟩
  unfold m_need_within at h
  obtain ⟨r186, hr186, g⟩ := obind h; clear h; have h := g; clear g
  refine gs_ifC h (gt_not (gt_val (g_call c_is_within hr tbn (mk_is_within hr186) (ga_cons (g_v 0 rfl) (ga_cons (g_v 1 rfl) ga_nil))))) (fun h => ?_) (fun h => ?_)
  · cases h
  · refine gs_nil ?_
    show GS _ _ _ _
    exact gs_nil (.inl (Exists.intro _ rfl))
def m_exponent_of (x_wheels : (List Int)) : Option Int := (bif (decide ((0 : Int) < (x_wheels.length : Int))) then (idx x_wheels (-(1 : Int))).bind fun x188 => some x188 else some (1 : Int)).bind fun v189 => some v189
def M_exponent_of (ds : List D) (d : D) : Prop := ∃ (x_wheels : (List Int)) (r : Int), ds = [(eT PyData.int) x_wheels] ∧ m_exponent_of x_wheels = some r ∧ d = PyData.int r
theorem mk_exponent_of {x_wheels : (List Int)} {r : Int} (h : m_exponent_of x_wheels = some r) : M_exponent_of [(eT PyData.int) x_wheels] (PyData.int r) := ⟨x_wheels, r, rfl, h, rfl⟩
abbrev s_exponent_of : Stmt := top 14
theorem sc_exponent_of : FnScope ["wheels"] ["wheels"] (defScope s_exponent_of) := ⟨rfl, rfl, rfl, by decide +kernel, rfl, by decide +kernel, by decide +kernel⟩
theorem o_exponent_of (F : FnP K "exponent_of" s_exponent_of f fd) (hm_len : mg "len" = none) : FnOkG [] P w K mg base CX0 1 f fd ["wheels"] (spF 1 M_exponent_of) := by
  refine ok_fn (k := 0) F sc_exponent_of rfl (by decide) fun cdv A outer s H E hr ht ds d hM hl => ?_
  obtain ⟨x_wheels, r, rfl, h, rfl⟩ := hM
  have nd := sc_exponent_of.nd
  unfold m_exponent_of at h
  obtain ⟨v189, hv189, g⟩ := obind h; clear h; have h := g; clear g
  obtain rfl := oret h
  exact gs_ret (t_ifO (ε := PyData.int) hv189 (gt_cmpE op_gt (t_len (xs := x_wheels) (ε := PyData.int) hm_len rfl (GE.gv (g_v 0 rfl))) (GE.gv g_int) v_gt rfl) (fun h => by obtain ⟨x188, hx188, g⟩ := obind h; clear h; have h := g; clear g; obtain rfl := oret h; exact (t_ix (ε := PyData.int) (xs := x_wheels) hx188 rfl (GE.gv (g_v 0 rfl)) (g_neg g_int))) (fun h => by obtain rfl := oret h; exact g_int)) (Exists.intro _ rfl)
def m_times_element (x_wheels : (List Int)) (x_k : Int) (x_one : (List Int)) : Option (List Int) := (szL (x_one.zip x_wheels)).bind fun u197 => (lcF (fun (x198 : (Int × Int)) => (pmul x_k x198.1).bind fun n199 => (pmod n199 x198.2).bind fun n200 => some (some n200)) (x_one.zip x_wheels)).bind fun ys201 => some ys201
def M_times_element (ds : List D) (d : D) : Prop := ∃ (x_wheels : (List Int)) (x_k : Int) (x_one : (List Int)) (r : (List Int)), ds = [(eT PyData.int) x_wheels, PyData.int x_k, (eT PyData.int) x_one] ∧ m_times_element x_wheels x_k x_one = some r ∧ d = (eT PyData.int) r
theorem mk_times_element {x_wheels : (List Int)} {x_k : Int} {x_one : (List Int)} {r : (List Int)} (h : m_times_element x_wheels x_k x_one = some r) : M_times_element [(eT PyData.int) x_wheels, PyData.int x_k, (eT PyData.int) x_one] ((eT PyData.int) r) := ⟨x_wheels, x_k, x_one, r, rfl, h, rfl⟩
abbrev s_times_element : Stmt := top 12
theorem sc_times_element : FnScope ["wheels", "k", "one", "a", "number"] ["wheels", "k", "one"] (defScope s_times_element) := ⟨rfl, rfl, rfl, by decide +kernel, rfl, by decide +kernel, by decide +kernel⟩
theorem o_times_element (F : FnP K "times_element" s_times_element f fd) (hm_tuple : mg "tuple" = none) (hm_zip : mg "zip" = none) : FnOkG [] P w K mg base CX0 1 f fd ["wheels", "k", "one"] (spF 3 M_times_element) := by
  refine ok_fn (k := 0) F sc_times_element rfl (by decide) fun cdv A outer s H E hr ht ds d hM hl => ?_
  obtain ⟨x_wheels, x_k, x_one, r, rfl, h, rfl⟩ := hM
  have nd := sc_times_element.nd
  unfold m_times_element at h
  obtain ⟨u197, hu197, g⟩ := obind h; clear h; have h := g; clear g
  obtain ⟨ys201, hys201, g⟩ := obind h; clear h; have h := g; clear g
  obtain rfl := oret h
  exact gs_ret (g_tuple rfl hm_tuple (GL.v (g_lc (ε := (eP PyData.int PyData.int)) (ε' := PyData.int) hys201 (szL_le hu197) rfl nd (own := [("a", 3), ("number", 4)]) (blkOk_by (by first | rfl | kernel_rfl)) (t_zip2 (xs := x_one) (ys := x_wheels) (ε := PyData.int) (η := PyData.int) hm_zip (g_v 2 rfl) (g_v 0 rfl) rfl rfl) (NoOwn.by rfl) (fun x198 hx o h => by obtain ⟨n199, hn199, g⟩ := obind h; clear h; have h := g; clear g; obtain ⟨n200, hn200, g⟩ := obind h; clear h; have h := g; clear g; obtain rfl := oret h; exact turn_val (fun B => (gg_tup rfl (ggs_cons (gg_name 3 nd) (ggs_cons (gg_name 4 nd) ggs_nil)))) (fun B => (g_mod hn200 (g_mul hn199 (g_v 1 rfl) (g_v 3 rfl)) (g_v 4 rfl))))))) (Exists.intro _ rfl)
def m_stuck_at (x_wheels : (List Int)) (x_group : (List (List Int))) (x_m : Int) : Option (Option (List Int)) := (szL x_group).bind fun u195 => (dcF (fun (x196 : (List Int)) => (m_times_element x_wheels x_m x196).bind fun r202 => some (r202, true)) x_group []).bind fun d203 => (m_elements_of x_wheels).bind fun r204 => (szL r204).bind fun u205 => (dcF (fun (x206 : (List Int)) => (m_times_element x_wheels x_m x206).bind fun r207 => some (r207, true)) r204 []).bind fun d208 => (forR (ρ := (Option (List Int))) (fun (x210 : (List Int)) (s209 : Unit) => bif ((dget d208 x210).isSome && (!(dget d203 x210).isSome)) then some (.inr (some x210)) else some (.inl ())) x_group ()).bind fun z211 => onR z211 (fun (s212 : Unit) => some none) (fun r0 => some r0)
def M_stuck_at (ds : List D) (d : D) : Prop := ∃ (x_wheels : (List Int)) (x_group : (List (List Int))) (x_m : Int) (r : (Option (List Int))), ds = [(eT PyData.int) x_wheels, (eT (eT PyData.int)) x_group, PyData.int x_m] ∧ m_stuck_at x_wheels x_group x_m = some r ∧ d = (eO (eT PyData.int)) r
theorem mk_stuck_at {x_wheels : (List Int)} {x_group : (List (List Int))} {x_m : Int} {r : (Option (List Int))} (h : m_stuck_at x_wheels x_group x_m = some r) : M_stuck_at [(eT PyData.int) x_wheels, (eT (eT PyData.int)) x_group, PyData.int x_m] ((eO (eT PyData.int)) r) := ⟨x_wheels, x_group, x_m, r, rfl, h, rfl⟩
abbrev s_stuck_at : Stmt := top 23
theorem sc_stuck_at : FnScope ["wheels", "group", "m", "own", "whole", "one", "x"] ["wheels", "group", "m"] (defScope s_stuck_at) := ⟨rfl, rfl, rfl, by decide +kernel, rfl, by decide +kernel, by decide +kernel⟩
theorem o_stuck_at (F : FnP K "stuck_at" s_stuck_at f fd) (c_times_element : CalG [] P w K mg base 1 "times_element" (spF 3 M_times_element) []) (c_elements_of : CalG [] P w K mg base 2 "elements_of" (spF 1 M_elements_of) []) : FnOkG [] P w K mg base CX0 3 f fd ["wheels", "group", "m"] (spF 3 M_stuck_at) := by
  refine ok_fn (k := 2) F sc_stuck_at rfl (by decide) fun cdv A outer s H E hr ht ds d hM hl => ?_
  obtain ⟨x_wheels, x_group, x_m, r, rfl, h, rfl⟩ := hM
  have nd := sc_stuck_at.nd
  unfold m_stuck_at at h
  obtain ⟨u195, hu195, g⟩ := obind h; clear h; have h := g; clear g
  obtain ⟨d203, hd203, g⟩ := obind h; clear h; have h := g; clear g
  refine gs_setNDc (ε := (eT PyData.int)) (ε' := (eT PyData.int)) (η := PyData.bool) 3 hd203 (szL_le hu195) (NKE.T NKE.int) hr rfl nd (own := [("x", 6)]) (blkOk_by (by first | rfl | kernel_rfl)) (gi_tup (g_v 1 rfl)) (NoOwn.by rfl) (fun x196 hx kv h => by obtain ⟨r202, hr202, g⟩ := obind h; clear h; have h := g; clear g; obtain rfl := oret h; exact turn_d (fun B => (gg_name 6 nd)) (fun B => (g_call c_times_element hr tbn (mk_times_element hr202) (ga_cons (g_v 0 rfl) (ga_cons (g_v 2 rfl) (ga_cons (g_v 6 rfl) ga_nil))))) (fun B => g_bl)) ?_
  refine gs_re [.sh ((eT PyData.int) x_wheels), .sh ((eT (eT PyData.int)) x_group), .sh (PyData.int x_m), .ob (nkS P w (eN (nkT NestedKey.num) PyData.bool d203)), .any, .any, .any] rfl ?_
  obtain ⟨r204, hr204, g⟩ := obind h; clear h; have h := g; clear g
  obtain ⟨u205, hu205, g⟩ := obind h; clear h; have h := g; clear g
  obtain ⟨d208, hd208, g⟩ := obind h; clear h; have h := g; clear g
  refine gs_setNDc (ε := (eT PyData.int)) (ε' := (eT PyData.int)) (η := PyData.bool) 4 hd208 (szL_le hu205) (NKE.T NKE.int) hr rfl nd (own := [("x", 6)]) (blkOk_by (by first | rfl | kernel_rfl)) (gi_list (g_call c_elements_of hr tbn (mk_elements_of hr204) (ga_cons (g_v 0 rfl) ga_nil))) (NoOwn.by rfl) (fun x206 hx kv h => by obtain ⟨r207, hr207, g⟩ := obind h; clear h; have h := g; clear g; obtain rfl := oret h; exact turn_d (fun B => (gg_name 6 nd)) (fun B => (g_call c_times_element hr tbn (mk_times_element hr207) (ga_cons (g_v 0 rfl) (ga_cons (g_v 2 rfl) (ga_cons (g_v 6 rfl) ga_nil))))) (fun B => g_bl)) ?_
  refine gs_re [.sh ((eT PyData.int) x_wheels), .sh ((eT (eT PyData.int)) x_group), .sh (PyData.int x_m), .ob (nkS P w (eN (nkT NestedKey.num) PyData.bool d203)), .ob (nkS P w (eN (nkT NestedKey.num) PyData.bool d208)), .any, .any] rfl ?_
  obtain ⟨z211, hz211, g⟩ := obind h; clear h; have h := g; clear g
  refine gs_forR (S := Unit) (ρ := (Option (List Int))) (Pr := fun r o => ∃ C', o = .rt ((eO (eT PyData.int)) r) C') (ε := (eT PyData.int)) (Cs := fun s => [.sh ((eT PyData.int) x_wheels), .sh ((eT (eT PyData.int)) x_group), .sh (PyData.int x_m), .ob (nkS P w (eN (nkT NestedKey.num) PyData.bool d203)), .ob (nkS P w (eN (nkT NestedKey.num) PyData.bool d208)), .any, .any]) (Cx := fun x s => [.sh ((eT PyData.int) x_wheels), .sh ((eT (eT PyData.int)) x_group), .sh (PyData.int x_m), .ob (nkS P w (eN (nkT NestedKey.num) PyData.bool d203)), .ob (nkS P w (eN (nkT NestedKey.num) PyData.bool d208)), .sh ((eT PyData.int) x), .any]) (is := [5]) hz211 (gi_tup (g_v 1 rfl)) (.same (.same (.same (.same (.same (.any (.any .nil))))))) PassesOwn.never rfl (fun x s => (gg_name 5 nd)) (fun x210 hx s209 s' h => ?_) (fun x210 hx s209 r0 h => ?_) (fun s212 hs1 => ?_) (fun r0 hr0 o ho => ?_)
  · refine gs_ifC h (GW.gt (w_and (t_nin (ε := (eT PyData.int)) (η := PyData.bool) (kvs := d208) (k := x210) 4 (NKE.T NKE.int) hr rfl (g_v 5 rfl)) (gw_and1 (t_nnotin (ε := (eT PyData.int)) (η := PyData.bool) (kvs := d203) (k := x210) 3 (NKE.T NKE.int) hr rfl (g_v 5 rfl))))) (fun h => ?_) (fun h => ?_)
    · cases oret h
    · refine gs_nil ?_
      show GS _ _ _ _
      refine gs_re [.sh ((eT PyData.int) x_wheels), .sh ((eT (eT PyData.int)) x_group), .sh (PyData.int x_m), .ob (nkS P w (eN (nkT NestedKey.num) PyData.bool d203)), .ob (nkS P w (eN (nkT NestedKey.num) PyData.bool d208)), .sh ((eT PyData.int) x210), .any] rfl ?_
      obtain rfl := Sum.inl.inj (oret h)
      exact gs_end _ (.same (.same (.same (.same (.same (.any (.any .nil))))))) rfl
  · refine gs_ifC h (GW.gt (w_and (t_nin (ε := (eT PyData.int)) (η := PyData.bool) (kvs := d208) (k := x210) 4 (NKE.T NKE.int) hr rfl (g_v 5 rfl)) (gw_and1 (t_nnotin (ε := (eT PyData.int)) (η := PyData.bool) (kvs := d203) (k := x210) 3 (NKE.T NKE.int) hr rfl (g_v 5 rfl))))) (fun h => ?_) (fun h => ?_)
    · obtain rfl := Sum.inr.inj (oret h)
      exact gs_ret (g_v 5 rfl) (Exists.intro _ rfl)
    · refine gs_nil ?_
      show GS _ _ _ _
      refine gs_re [.sh ((eT PyData.int) x_wheels), .sh ((eT (eT PyData.int)) x_group), .sh (PyData.int x_m), .ob (nkS P w (eN (nkT NestedKey.num) PyData.bool d203)), .ob (nkS P w (eN (nkT NestedKey.num) PyData.bool d208)), .sh ((eT PyData.int) x210), .any] rfl ?_
      cases oret h
  · subst hs1
    replace h := onR_inl h
    obtain rfl := oret h
    exact gs_ret g_non (Exists.intro _ rfl)
  · subst hr0
    obtain rfl := oret (onR_inr h)
    obtain ⟨C', rfl⟩ := ret_of ho
    exact Exists.intro _ rfl
def m_groups_within (x_wheels : (List Int)) : Option (List (List (List Int))) := (m_nought x_wheels).bind fun r200 => (some ([([r200], true)].map (·.1))).bind fun v201 => (m_elements_of x_wheels).bind fun r202 => (whF (fun (s203 : (List ((List (List Int)) × Bool)) × (List (List (List Int)))) => some (decide ((0 : Int) < (s203.2.length : Int)))) (fun (s203 : (List ((List (List Int)) × Bool)) × (List (List (List Int)))) => (s203.2.getLast?).bind fun x204 => (forF (fun (x206 : (List Int)) (s205 : (List ((List (List Int)) × Bool)) × (List (List (List Int)))) => (bif (!decide (x206 ∈ x204)) then (szOk (x204.length + [x206].length)).bind fun u215 => (m_made_by x_wheels (x204 ++ [x206])).bind fun r216 => (bif (!(dget s205.1 r216).isSome) then (szOk (s205.1.length + 1)).bind fun u220 => (szOk (s205.2.length + 1)).bind fun u221 => some ((dput s205.1 r216 true), (s205.2 ++ [r216])) else some (s205.1, s205.2)).bind fun (s219 : (List ((List (List Int)) × Bool)) × (List (List (List Int)))) => some (s219.1, s219.2) else some (s205.1, s205.2)).bind fun (s214 : (List ((List (List Int)) × Bool)) × (List (List (List Int)))) => some (s214.1, s214.2)) r202 (s203.1, s203.2.dropLast)).bind fun s222 => some (s222.1, s222.2)) 100000 ([([r200], true)], v201)).bind fun s223 => (gd (keyOk ((s223.1.map (·.1)).map (eT (eT PyData.int))))).bind fun u224 => some (isort (fun a b => leD (keyD ((eT (eT PyData.int)) a)) (keyD ((eT (eT PyData.int)) b))) (s223.1.map (·.1)))
def M_groups_within (ds : List D) (d : D) : Prop := ∃ (x_wheels : (List Int)) (r : (List (List (List Int)))), ds = [(eT PyData.int) x_wheels] ∧ m_groups_within x_wheels = some r ∧ d = (eL (eT (eT PyData.int))) r
theorem mk_groups_within {x_wheels : (List Int)} {r : (List (List (List Int)))} (h : m_groups_within x_wheels = some r) : M_groups_within [(eT PyData.int) x_wheels] ((eL (eT (eT PyData.int))) r) := ⟨x_wheels, r, rfl, h, rfl⟩
abbrev s_groups_within : Stmt := top 20
theorem sc_groups_within : FnScope ["wheels", "found", "waiting", "whole", "group", "one", "other"] ["wheels"] (defScope s_groups_within) := ⟨rfl, rfl, rfl, by decide +kernel, rfl, by decide +kernel, by decide +kernel⟩
theorem o_groups_within {c0 P0 : Addr} (F : FnP K "groups_within" s_groups_within f fd) (hcs : (c0, P0) ∈ cs) (TB : LamX.TabB base mg c0 P0) (hC : ∀ (p : Obj) (fd' : FuncData) (c : Addr), K.lookup f = some p → p.data = .func fd' → fd'.code = .ref c → c = c0) (c_nought : CalG [] P w K mg base 1 "nought" (spF 1 M_nought) []) (c_elements_of : CalG [] P w K mg base 2 "elements_of" (spF 1 M_elements_of) []) (c_made_by : CalG [] P w K mg base 2 "made_by" (spF 2 M_made_by) []) (hm_len : mg "len" = none) (hm_list : mg "list" = none) (hm_sorted : mg "sorted" = none) : FnOkG cs P w K mg base CX0 3 f fd ["wheels"] (spF 1 M_groups_within) := by
  refine ok_fnC (k := 2) F sc_groups_within rfl (by decide) hC fun cdv A outer s H E hcd hr ht ds d hM hl => ?_
  obtain ⟨x_wheels, r, rfl, h, rfl⟩ := hM
  have nd := sc_groups_within.nd
  unfold m_groups_within at h
  obtain ⟨r200, hr200, g⟩ := obind h; clear h; have h := g; clear g
  refine t_ndisp (ε := (eT (eT PyData.int))) (η := PyData.bool) (k := [r200]) (v := true) 1 (NKE.T (NKE.T NKE.int)) hr nd (g_tup (ga_cons (g_call c_nought hr tbn (mk_nought hr200) (ga_cons (g_v 0 rfl) ga_nil)) ga_nil) : GE _ _ _ ((eT (eT PyData.int)) [r200]) _) g_bl ?_
  refine gs_re [.sh ((eT PyData.int) x_wheels), .ob (nkS P w (eN (nkT (nkT NestedKey.num)) PyData.bool [([r200], true)])), .any, .any, .any, .any, .any] rfl ?_
  obtain ⟨v201, hv201, g⟩ := obind h; clear h; have h := g; clear g
  refine gs_setL 2 nd (GL.cast (ε := (eT (eT PyData.int))) hv201 (t_nlist (ε := (eT (eT PyData.int))) (η := PyData.bool) (kvs := [([r200], true)]) 1 (NKE.T (NKE.T NKE.int)) rfl rfl hm_list)) ?_
  refine gs_re [.sh ((eT PyData.int) x_wheels), .ob (nkS P w (eN (nkT (nkT NestedKey.num)) PyData.bool [([r200], true)])), .ol (v201.map (eT (eT PyData.int))), .any, .any, .any, .any] rfl ?_
  obtain ⟨r202, hr202, g⟩ := obind h; clear h; have h := g; clear g
  refine gs_set 3 nd (g_call c_elements_of hr tbn (mk_elements_of hr202) (ga_cons (g_v 0 rfl) ga_nil)) ?_
  refine gs_re [.sh ((eT PyData.int) x_wheels), .ob (nkS P w (eN (nkT (nkT NestedKey.num)) PyData.bool [([r200], true)])), .ol (v201.map (eT (eT PyData.int))), .sh ((eL (eT PyData.int)) r202), .any, .any, .any] rfl ?_
  obtain ⟨s223, hs223, g⟩ := obind h; clear h; have h := g; clear g
  refine gs_whF (S := (List ((List (List Int)) × Bool)) × (List (List (List Int)))) (Cs := fun s => [.sh ((eT PyData.int) x_wheels), .ob (nkS P w (eN (nkT (nkT NestedKey.num)) PyData.bool s.1)), .ol (s.2.map (eT (eT PyData.int))), .sh ((eL (eT PyData.int)) r202), .any, .any, .any]) hs223 (.same (.same (.same (.same (.any (.any (.any .nil))))))) PassesOwn.never (fun s203 k h => by obtain rfl := oret h; exact (gt_cmpE op_gt (t_len (xs := s203.2) (ε := (eT (eT PyData.int))) hm_len rfl (g_vo 2 rfl)) (GE.gv g_int) v_gt rfl)) (fun s203 s' hc h => ?_) ?_
  · obtain ⟨x204, hx204, g⟩ := obind h; clear h; have h := g; clear g
    refine gs_set 4 nd (t_pop (ε := (eT (eT PyData.int))) 2 hx204 rfl) ?_
    refine gs_re [.sh ((eT PyData.int) x_wheels), .ob (nkS P w (eN (nkT (nkT NestedKey.num)) PyData.bool s203.1)), .ol (s203.2.dropLast.map (eT (eT PyData.int))), .sh ((eL (eT PyData.int)) r202), .sh ((eT (eT PyData.int)) x204), .any, .any] rfl ?_
    obtain ⟨s222, hs222, g⟩ := obind h; clear h; have h := g; clear g
    refine gs_forF (S := (List ((List (List Int)) × Bool)) × (List (List (List Int)))) (ε := (eT PyData.int)) (Cs := fun s => [.sh ((eT PyData.int) x_wheels), .ob (nkS P w (eN (nkT (nkT NestedKey.num)) PyData.bool s.1)), .ol (s.2.map (eT (eT PyData.int))), .sh ((eL (eT PyData.int)) r202), .sh ((eT (eT PyData.int)) x204), .any, .any]) (Cx := fun x s => [.sh ((eT PyData.int) x_wheels), .ob (nkS P w (eN (nkT (nkT NestedKey.num)) PyData.bool s.1)), .ol (s.2.map (eT (eT PyData.int))), .sh ((eL (eT PyData.int)) r202), .sh ((eT (eT PyData.int)) x204), .sh ((eT PyData.int) x), .any]) (is := [5]) hs222 (gi_list (g_v 3 rfl)) (.same (.same (.same (.same (.same (.any (.any .nil))))))) PassesOwn.never rfl (fun x s => (gg_name 5 nd)) (fun x206 hx s205 s' h => ?_) ?_
    · obtain ⟨s214, hs214, g⟩ := obind h; clear h; have h := g; clear g
      refine gs_ifJ (S := (List ((List (List Int)) × Bool)) × (List (List (List Int)))) (Cj := fun s => [.sh ((eT PyData.int) x_wheels), .ob (nkS P w (eN (nkT (nkT NestedKey.num)) PyData.bool s.1)), .ol (s.2.map (eT (eT PyData.int))), .sh ((eL (eT PyData.int)) r202), .sh ((eT (eT PyData.int)) x204), .sh ((eT PyData.int) x206), .any]) hs214 (gt_cmpE (op_notInS hr) (g_v 5 rfl) (GE.gv (g_v 4 rfl)) (v_notInT (Eqv.T Eqv.int) (Sh.T Sh.int) (xs := x204) rfl (Sh.shaped (Sh.T (Sh.T Sh.int)) (by decide) x204)) rfl) (fun h => ?_) (fun h => ?_) ?_
      · obtain ⟨u215, hu215, g⟩ := obind h; clear h; have h := g; clear g
        obtain ⟨r216, hr216, g⟩ := obind h; clear h; have h := g; clear g
        refine gs_set 6 nd (g_call c_made_by hr tbn (mk_made_by hr216) (ga_cons (g_v 0 rfl) (ga_cons (t_catT (xs := x204) (ys := [x206]) hu215 (g_v 4 rfl) (g_tup (ga_cons (g_v 5 rfl) ga_nil) : GE _ _ _ ((eT (eT PyData.int)) [x206]) _)) ga_nil))) ?_
        refine gs_re [.sh ((eT PyData.int) x_wheels), .ob (nkS P w (eN (nkT (nkT NestedKey.num)) PyData.bool s205.1)), .ol (s205.2.map (eT (eT PyData.int))), .sh ((eL (eT PyData.int)) r202), .sh ((eT (eT PyData.int)) x204), .sh ((eT PyData.int) x206), .sh ((eT (eT PyData.int)) r216)] rfl ?_
        obtain ⟨s219, hs219, g⟩ := obind h; clear h; have h := g; clear g
        refine gs_ifJ (S := (List ((List (List Int)) × Bool)) × (List (List (List Int)))) (Cj := fun s => [.sh ((eT PyData.int) x_wheels), .ob (nkS P w (eN (nkT (nkT NestedKey.num)) PyData.bool s.1)), .ol (s.2.map (eT (eT PyData.int))), .sh ((eL (eT PyData.int)) r202), .sh ((eT (eT PyData.int)) x204), .sh ((eT PyData.int) x206), .sh ((eT (eT PyData.int)) r216)]) hs219 (t_nnotin (ε := (eT (eT PyData.int))) (η := PyData.bool) (kvs := s205.1) (k := r216) 1 (NKE.T (NKE.T NKE.int)) hr rfl (g_v 6 rfl)) (fun h => ?_) (fun h => ?_) ?_
        · obtain ⟨u220, hu220, g⟩ := obind h; clear h; have h := g; clear g
          refine t_nput (ε := (eT (eT PyData.int))) (η := PyData.bool) (v := true) (k := r216) 1 (NKE.T (NKE.T NKE.int)) hr hu220 g_bl rfl (g_v 6 rfl) ?_
          refine gs_re [.sh ((eT PyData.int) x_wheels), .ob (nkS P w (eN (nkT (nkT NestedKey.num)) PyData.bool (dput s205.1 r216 true))), .ol (s205.2.map (eT (eT PyData.int))), .sh ((eL (eT PyData.int)) r202), .sh ((eT (eT PyData.int)) x204), .sh ((eT PyData.int) x206), .sh ((eT (eT PyData.int)) r216)] rfl ?_
          obtain ⟨u221, hu221, g⟩ := obind h; clear h; have h := g; clear g
          refine gs_expr (t_append 2 hu221 rfl (g_v 6 rfl) rfl) ?_
          obtain rfl := oret h
          exact gs_end _ (.same (.same (.same (.same (.same (.same (.same .nil))))))) rfl
        · obtain rfl := oret h
          exact gs_end _ (.same (.same (.same (.same (.same (.same (.same .nil))))))) rfl
        obtain rfl := oret h
        exact gs_end _ (.same (.same (.same (.same (.same (.same (.any .nil))))))) rfl
      · obtain rfl := oret h
        exact gs_end _ (.same (.same (.same (.same (.same (.same (.any .nil))))))) rfl
      obtain rfl := oret h
      exact gs_end _ (.same (.same (.same (.same (.same (.any (.any .nil))))))) rfl
    obtain rfl := oret h
    exact gs_end _ (.same (.same (.same (.same (.any (.any (.any .nil))))))) rfl
  obtain ⟨u224, hu224, g⟩ := obind h; clear h; have h := g; clear g
  obtain rfl := oret h
  exact gs_ret (GL.ge (t_sortKey hr ht hcs TB hcd rfl hu224 hm_sorted hm_len (GL.v (t_nlist (ε := (eT (eT PyData.int))) (η := PyData.bool) (kvs := s223.1) 1 (NKE.T (NKE.T NKE.int)) rfl rfl hm_list)))) (Exists.intro _ rfl)
def m_beside_group (x_wheels : (List Int)) (x_group : (List (List Int))) : Option (Option (List (List Int))) := (m_elements_of x_wheels).bind fun r198 => (pdiv (r198.length : Int) (x_group.length : Int)).bind fun n199 => (m_groups_within x_wheels).bind fun r225 => (forR (ρ := (Option (List (List Int)))) (fun (x227 : (List (List Int))) (s226 : Unit) => (oand (decide ((x227.length : Int) = n199)) ((szL x227).bind fun u228 => some (decide ((((x227.filter (fun (x229 : (List Int)) => (decide (x229 ∈ x_group)))).map (fun (x229 : (List Int)) => x229)).length : Int) = (1 : Int))))).bind fun b230 => bif b230 then some (.inr (some x227)) else some (.inl ())) r225 ()).bind fun z231 => onR z231 (fun (s232 : Unit) => some none) (fun r0 => some r0)
def M_beside_group (ds : List D) (d : D) : Prop := ∃ (x_wheels : (List Int)) (x_group : (List (List Int))) (r : (Option (List (List Int)))), ds = [(eT PyData.int) x_wheels, (eT (eT PyData.int)) x_group] ∧ m_beside_group x_wheels x_group = some r ∧ d = (eO (eT (eT PyData.int))) r
theorem mk_beside_group {x_wheels : (List Int)} {x_group : (List (List Int))} {r : (Option (List (List Int)))} (h : m_beside_group x_wheels x_group = some r) : M_beside_group [(eT PyData.int) x_wheels, (eT (eT PyData.int)) x_group] ((eO (eT (eT PyData.int))) r) := ⟨x_wheels, x_group, r, rfl, h, rfl⟩
abbrev s_beside_group : Stmt := top 24
theorem sc_beside_group : FnScope ["wheels", "group", "size", "other", "x"] ["wheels", "group"] (defScope s_beside_group) := ⟨rfl, rfl, rfl, by decide +kernel, rfl, by decide +kernel, by decide +kernel⟩
theorem o_beside_group (F : FnP K "beside_group" s_beside_group f fd) (c_elements_of : CalG [] P w K mg base 2 "elements_of" (spF 1 M_elements_of) []) (c_groups_within : CalG cs P w K mg base 3 "groups_within" (spF 1 M_groups_within) []) (hm_len : mg "len" = none) : FnOkG cs P w K mg base CX0 4 f fd ["wheels", "group"] (spF 2 M_beside_group) := by
  refine ok_fn (k := 3) F sc_beside_group rfl (by decide) fun cdv A outer s H E hr ht ds d hM hl => ?_
  obtain ⟨x_wheels, x_group, r, rfl, h, rfl⟩ := hM
  have nd := sc_beside_group.nd
  unfold m_beside_group at h
  obtain ⟨r198, hr198, g⟩ := obind h; clear h; have h := g; clear g
  obtain ⟨n199, hn199, g⟩ := obind h; clear h; have h := g; clear g
  refine gs_set 2 nd (g_div hn199 (t_len (xs := r198) (ε := (eT PyData.int)) hm_len rfl (GE.gv (g_call c_elements_of hr tbn (mk_elements_of hr198) (ga_cons (g_v 0 rfl) ga_nil)))) (t_len (xs := x_group) (ε := (eT PyData.int)) hm_len rfl (GE.gv (g_v 1 rfl)))) ?_
  obtain ⟨r225, hr225, g⟩ := obind h; clear h; have h := g; clear g
  obtain ⟨z231, hz231, g⟩ := obind h; clear h; have h := g; clear g
  refine gs_forR (S := Unit) (ρ := (Option (List (List Int)))) (Pr := fun r o => ∃ C', o = .rt ((eO (eT (eT PyData.int))) r) C') (ε := (eT (eT PyData.int))) (Cs := fun s => [.sh ((eT PyData.int) x_wheels), .sh ((eT (eT PyData.int)) x_group), .sh (PyData.int n199), .any, .any]) (Cx := fun x s => [.sh ((eT PyData.int) x_wheels), .sh ((eT (eT PyData.int)) x_group), .sh (PyData.int n199), .sh ((eT (eT PyData.int)) x), .any]) (is := [3]) hz231 (gi_list (g_call c_groups_within hr ht (mk_groups_within hr225) (ga_cons (g_v 0 rfl) ga_nil))) (.same (.same (.same (.any (.any .nil))))) PassesOwn.never rfl (fun x s => (gg_name 3 nd)) (fun x227 hx s226 s' h => ?_) (fun x227 hx s226 r0 h => ?_) (fun s232 hs1 => ?_) (fun r0 hr0 o ho => ?_)
  · obtain ⟨b230, hb230, g⟩ := obind h; clear h; have h := g; clear g
    refine gs_ifC h (GW.gt (w_andO hb230 (gt_cmp op_eq (GE.gv (t_len (xs := x227) (ε := (eT PyData.int)) hm_len rfl (GE.gv (g_v 3 rfl)))) (GE.gv (g_v 2 rfl)) v_eqI rfl) (fun h => by obtain ⟨u228, hu228, g⟩ := obind h; clear h; have h := g; clear g; obtain rfl := oret h; exact (gw_and1 (gt_cmp op_eq (GE.gv (t_len (xs := ((x227.filter (fun (x229 : (List Int)) => (decide (x229 ∈ x_group)))).map (fun (x229 : (List Int)) => x229))) (ε := (eT PyData.int)) hm_len rfl (GL.v (g_lc (ε := (eT PyData.int)) (ε' := (eT PyData.int)) (lcF_filter (f := (fun (x229 : (List Int)) => x229)) (p := (fun (x229 : (List Int)) => (decide (x229 ∈ x_group))))) (szL_le hu228) rfl nd (own := [("x", 4)]) (blkOk_by (by first | rfl | kernel_rfl)) (gi_tup (g_v 3 rfl)) (NoOwn.by rfl) (fun x229 hx o h => by have h : (bif (decide (x229 ∈ x_group)) then some (some x229) else some none) = some o := by { rw [← oret h]; cases (decide (x229 ∈ x_group)) <;> rfl }; exact turn_if h (fun B => (gg_name 4 nd)) (fun B => (gt_cmpE (op_inS hr) (g_v 4 rfl) (GE.gv (g_v 1 rfl)) (v_inT (Eqv.T Eqv.int) (Sh.T Sh.int) (xs := x_group) rfl (Sh.shaped (Sh.T (Sh.T Sh.int)) (by decide) x_group)) rfl)) (fun h => by exact ⟨_, _, (oret h).symm, (fun B => (g_v 4 rfl)), rfl⟩)))))) (GE.gv g_int) v_eqI rfl))))) (fun h => ?_) (fun h => ?_)
    · cases oret h
    · refine gs_nil ?_
      show GS _ _ _ _
      obtain rfl := Sum.inl.inj (oret h)
      exact gs_end _ (.same (.same (.same (.any (.any .nil))))) rfl
  · obtain ⟨b230, hb230, g⟩ := obind h; clear h; have h := g; clear g
    refine gs_ifC h (GW.gt (w_andO hb230 (gt_cmp op_eq (GE.gv (t_len (xs := x227) (ε := (eT PyData.int)) hm_len rfl (GE.gv (g_v 3 rfl)))) (GE.gv (g_v 2 rfl)) v_eqI rfl) (fun h => by obtain ⟨u228, hu228, g⟩ := obind h; clear h; have h := g; clear g; obtain rfl := oret h; exact (gw_and1 (gt_cmp op_eq (GE.gv (t_len (xs := ((x227.filter (fun (x229 : (List Int)) => (decide (x229 ∈ x_group)))).map (fun (x229 : (List Int)) => x229))) (ε := (eT PyData.int)) hm_len rfl (GL.v (g_lc (ε := (eT PyData.int)) (ε' := (eT PyData.int)) (lcF_filter (f := (fun (x229 : (List Int)) => x229)) (p := (fun (x229 : (List Int)) => (decide (x229 ∈ x_group))))) (szL_le hu228) rfl nd (own := [("x", 4)]) (blkOk_by (by first | rfl | kernel_rfl)) (gi_tup (g_v 3 rfl)) (NoOwn.by rfl) (fun x229 hx o h => by have h : (bif (decide (x229 ∈ x_group)) then some (some x229) else some none) = some o := by { rw [← oret h]; cases (decide (x229 ∈ x_group)) <;> rfl }; exact turn_if h (fun B => (gg_name 4 nd)) (fun B => (gt_cmpE (op_inS hr) (g_v 4 rfl) (GE.gv (g_v 1 rfl)) (v_inT (Eqv.T Eqv.int) (Sh.T Sh.int) (xs := x_group) rfl (Sh.shaped (Sh.T (Sh.T Sh.int)) (by decide) x_group)) rfl)) (fun h => by exact ⟨_, _, (oret h).symm, (fun B => (g_v 4 rfl)), rfl⟩)))))) (GE.gv g_int) v_eqI rfl))))) (fun h => ?_) (fun h => ?_)
    · obtain rfl := Sum.inr.inj (oret h)
      exact gs_ret (g_v 3 rfl) (Exists.intro _ rfl)
    · refine gs_nil ?_
      show GS _ _ _ _
      cases oret h
  · subst hs1
    replace h := onR_inl h
    obtain rfl := oret h
    exact gs_ret g_non (Exists.intro _ rfl)
  · subst hr0
    obtain rfl := oret (onR_inr h)
    obtain ⟨C', rfl⟩ := ret_of ho
    exact Exists.intro _ rfl
def m_split_paper (x_wheels : (List Int)) (x_group : (List (List Int))) : Option D := (m_need_within x_wheels x_group).bind fun r187 => (m_exponent_of x_wheels).bind fun r191 => (rng (2 : Int) (r191 + (1 : Int))).bind fun ks192 => (forR (ρ := D) (fun (x194 : Int) (s193 : Unit) => (m_stuck_at x_wheels x_group x194).bind fun r195 => bif (!isNone ((eO (eT PyData.int)) r195)) then some (.inr ((eQ PyData.str PyData.int (eO (eT PyData.int))) (("stuck" : Str), x194, r195))) else some (.inl ())) ks192 ()).bind fun z196 => onR z196 (fun (s197 : Unit) => (m_beside_group x_wheels x_group).bind fun r233 => some ((eP PyData.str (eO (eT (eT PyData.int)))) (("beside" : Str), r233))) (fun r0 => some r0)
def M_split_paper (ds : List D) (d : D) : Prop := ∃ (x_wheels : (List Int)) (x_group : (List (List Int))) (r : D), ds = [(eT PyData.int) x_wheels, (eT (eT PyData.int)) x_group] ∧ m_split_paper x_wheels x_group = some r ∧ d = eD r
theorem mk_split_paper {x_wheels : (List Int)} {x_group : (List (List Int))} {r : D} (h : m_split_paper x_wheels x_group = some r) : M_split_paper [(eT PyData.int) x_wheels, (eT (eT PyData.int)) x_group] (eD r) := ⟨x_wheels, x_group, r, rfl, h, rfl⟩
abbrev s_split_paper : Stmt := top 25
theorem sc_split_paper : FnScope ["wheels", "group", "m", "one"] ["wheels", "group"] (defScope s_split_paper) := ⟨rfl, rfl, rfl, by decide +kernel, rfl, by decide +kernel, by decide +kernel⟩
theorem o_split_paper (F : FnP K "split_paper" s_split_paper f fd) (c_need_within : CalG [] P w K mg base 4 "need_within" (spF 2 M_need_within) []) (c_exponent_of : CalG [] P w K mg base 1 "exponent_of" (spF 1 M_exponent_of) []) (c_stuck_at : CalG [] P w K mg base 3 "stuck_at" (spF 3 M_stuck_at) []) (c_beside_group : CalG cs P w K mg base 4 "beside_group" (spF 2 M_beside_group) []) (hm_range : mg "range" = none) : FnOkG cs P w K mg base CX0 5 f fd ["wheels", "group"] (spF 2 M_split_paper) := by
  refine ok_fn (k := 4) F sc_split_paper rfl (by decide) fun cdv A outer s H E hr ht ds d hM hl => ?_
  obtain ⟨x_wheels, x_group, r, rfl, h, rfl⟩ := hM
  have nd := sc_split_paper.nd
  unfold m_split_paper at h
  obtain ⟨r187, hr187, g⟩ := obind h; clear h; have h := g; clear g
  refine gs_expr (g_call c_need_within hr tbn (mk_need_within hr187) (ga_cons (g_v 0 rfl) (ga_cons (g_v 1 rfl) ga_nil))) ?_
  obtain ⟨r191, hr191, g⟩ := obind h; clear h; have h := g; clear g
  obtain ⟨ks192, hks192, g⟩ := obind h; clear h; have h := g; clear g
  obtain ⟨z196, hz196, g⟩ := obind h; clear h; have h := g; clear g
  refine gs_forR (S := Unit) (ρ := D) (Pr := fun r o => ∃ C', o = .rt (eD r) C') (ε := PyData.int) (Cs := fun s => [.sh ((eT PyData.int) x_wheels), .sh ((eT (eT PyData.int)) x_group), .any, .any]) (Cx := fun x s => [.sh ((eT PyData.int) x_wheels), .sh ((eT (eT PyData.int)) x_group), .sh (PyData.int x), .any]) (is := [2]) hz196 (t_range2 hks192 hm_range g_int (g_add (g_call c_exponent_of hr tbn (mk_exponent_of hr191) (ga_cons (g_v 0 rfl) ga_nil)) g_int)) (.same (.same (.any (.any .nil)))) PassesOwn.never rfl (fun x s => (gg_name 2 nd)) (fun x194 hx s193 s' h => ?_) (fun x194 hx s193 r0 h => ?_) (fun s197 hs1 => ?_) (fun r0 hr0 o ho => ?_)
  · obtain ⟨r195, hr195, g⟩ := obind h; clear h; have h := g; clear g
    refine gs_set 3 nd (g_call c_stuck_at hr tbn (mk_stuck_at hr195) (ga_cons (g_v 0 rfl) (ga_cons (g_v 1 rfl) (ga_cons (g_v 2 rfl) ga_nil)))) ?_
    refine gs_ifC h (gt_cmp op_notN (GE.gv (g_v 3 rfl)) (GE.gv g_non) v_notN rfl) (fun h => ?_) (fun h => ?_)
    · cases oret h
    · refine gs_nil ?_
      show GS _ _ _ _
      obtain rfl := Sum.inl.inj (oret h)
      exact gs_end _ (.same (.same (.any (.any .nil)))) rfl
  · obtain ⟨r195, hr195, g⟩ := obind h; clear h; have h := g; clear g
    refine gs_set 3 nd (g_call c_stuck_at hr tbn (mk_stuck_at hr195) (ga_cons (g_v 0 rfl) (ga_cons (g_v 1 rfl) (ga_cons (g_v 2 rfl) ga_nil)))) ?_
    refine gs_ifC h (gt_cmp op_notN (GE.gv (g_v 3 rfl)) (GE.gv g_non) v_notN rfl) (fun h => ?_) (fun h => ?_)
    · obtain rfl := Sum.inr.inj (oret h)
      exact gs_ret (g_tup (ga_cons g_str (ga_cons (g_v 2 rfl) (ga_cons (g_v 3 rfl) ga_nil))) : GE _ _ _ ((eQ PyData.str PyData.int (eO (eT PyData.int))) (("stuck" : Str), x194, r195)) _) (Exists.intro _ rfl)
    · refine gs_nil ?_
      show GS _ _ _ _
      cases oret h
  · subst hs1
    replace h := onR_inl h
    obtain ⟨r233, hr233, g⟩ := obind h; clear h; have h := g; clear g
    obtain rfl := oret h
    exact gs_ret (g_tup (ga_cons g_str (ga_cons (g_call c_beside_group hr ht (mk_beside_group hr233) (ga_cons (g_v 0 rfl) (ga_cons (g_v 1 rfl) ga_nil))) ga_nil)) : GE _ _ _ ((eP PyData.str (eO (eT (eT PyData.int)))) (("beside" : Str), r233)) _) (Exists.intro _ rfl)
  · subst hr0
    obtain rfl := oret (onR_inr h)
    obtain ⟨C', rfl⟩ := ret_of ho
    exact Exists.intro _ rfl
def m__law_is_integer (x_actual : D) : Option Bool := some ((isA "int" x_actual) && (!(isA "bool" x_actual)))
def M__law_is_integer (ds : List D) (d : D) : Prop := ∃ (x_actual : D) (r : Bool), ds = [eD x_actual] ∧ m__law_is_integer x_actual = some r ∧ d = PyData.bool r
theorem mk__law_is_integer {x_actual : D} {r : Bool} (h : m__law_is_integer x_actual = some r) : M__law_is_integer [eD x_actual] (PyData.bool r) := ⟨x_actual, r, rfl, h, rfl⟩
abbrev s__law_is_integer : Stmt := top 30
theorem sc__law_is_integer : FnScope ["actual"] ["actual"] (defScope s__law_is_integer) := ⟨rfl, rfl, rfl, by decide +kernel, rfl, by decide +kernel, by decide +kernel⟩
theorem o__law_is_integer (F : FnP K "_law_is_integer" s__law_is_integer f fd) (hm_bool : mg "bool" = none) (hm_int : mg "int" = none) (hm_isinstance : mg "isinstance" = none) : FnOkG [] P w K mg base CX0 1 f fd ["actual"] (spF 1 M__law_is_integer) := by
  refine ok_fn (k := 0) F sc__law_is_integer rfl (by decide) fun cdv A outer s H E hr ht ds d hM hl => ?_
  obtain ⟨x_actual, r, rfl, h, rfl⟩ := hM
  have nd := sc__law_is_integer.nd
  unfold m__law_is_integer at h
  obtain rfl := oret h
  exact gs_ret (b_and (g_isi (T := "int") (by decide +kernel) (by decide +kernel) hm_isinstance hm_int (GE.gv (g_v 0 rfl))) (g_one (g_not (g_isi (T := "bool") (by decide +kernel) (by decide +kernel) hm_isinstance hm_bool (GE.gv (g_v 0 rfl)))))) (Exists.intro _ rfl)
def m__law_times (x_wheels : (List Int)) (x_k : Int) (x_one : (List Int)) : Option (List Int) := (szL (x_one.zip x_wheels)).bind fun u299 => (lcF (fun (x300 : (Int × Int)) => (pmul x_k x300.1).bind fun n301 => (pmod n301 x300.2).bind fun n302 => some (some n302)) (x_one.zip x_wheels)).bind fun ys303 => some ys303
def M__law_times (ds : List D) (d : D) : Prop := ∃ (x_wheels : (List Int)) (x_k : Int) (x_one : (List Int)) (r : (List Int)), ds = [(eT PyData.int) x_wheels, PyData.int x_k, (eT PyData.int) x_one] ∧ m__law_times x_wheels x_k x_one = some r ∧ d = (eT PyData.int) r
theorem mk__law_times {x_wheels : (List Int)} {x_k : Int} {x_one : (List Int)} {r : (List Int)} (h : m__law_times x_wheels x_k x_one = some r) : M__law_times [(eT PyData.int) x_wheels, PyData.int x_k, (eT PyData.int) x_one] ((eT PyData.int) r) := ⟨x_wheels, x_k, x_one, r, rfl, h, rfl⟩
abbrev s__law_times : Stmt := top 41
theorem sc__law_times : FnScope ["wheels", "k", "one", "a", "n"] ["wheels", "k", "one"] (defScope s__law_times) := ⟨rfl, rfl, rfl, by decide +kernel, rfl, by decide +kernel, by decide +kernel⟩
theorem o__law_times (F : FnP K "_law_times" s__law_times f fd) (hm_int : mg "int" = none) (hm_tuple : mg "tuple" = none) (hm_zip : mg "zip" = none) : FnOkG [] P w K mg base CX0 1 f fd ["wheels", "k", "one"] (spF 3 M__law_times) := by
  refine ok_fn (k := 0) F sc__law_times rfl (by decide) fun cdv A outer s H E hr ht ds d hM hl => ?_
  obtain ⟨x_wheels, x_k, x_one, r, rfl, h, rfl⟩ := hM
  have nd := sc__law_times.nd
  unfold m__law_times at h
  obtain ⟨u299, hu299, g⟩ := obind h; clear h; have h := g; clear g
  obtain ⟨ys303, hys303, g⟩ := obind h; clear h; have h := g; clear g
  obtain rfl := oret h
  exact gs_ret (g_tuple rfl hm_tuple (GL.v (g_lc (ε := (eP PyData.int PyData.int)) (ε' := PyData.int) hys303 (szL_le hu299) rfl nd (own := [("a", 3), ("n", 4)]) (blkOk_by (by first | rfl | kernel_rfl)) (t_zip2 (xs := x_one) (ys := x_wheels) (ε := PyData.int) (η := PyData.int) hm_zip (g_v 2 rfl) (g_v 0 rfl) rfl rfl) (NoOwn.by rfl) (fun x300 hx o h => by obtain ⟨n301, hn301, g⟩ := obind h; clear h; have h := g; clear g; obtain ⟨n302, hn302, g⟩ := obind h; clear h; have h := g; clear g; obtain rfl := oret h; exact turn_val (fun B => (gg_tup rfl (ggs_cons (gg_name 3 nd) (ggs_cons (gg_name 4 nd) ggs_nil)))) (fun B => (g_mod hn302 (g_intI hm_int (g_mul hn301 (g_v 1 rfl) (g_v 3 rfl))) (g_v 4 rfl))))))) (Exists.intro _ rfl)
def m__law_right (x_wheels : (List Int)) (x_group : (List (List Int))) (x_value : D) : Option Bool := (m__law_all x_wheels).bind fun r235 => (oor (!(isA "tuple" x_value)) ((sq x_value).bind fun ds236 => (oor (decide ((ds236.length : Int) < (2 : Int))) ((sq x_value).bind fun ds237 => (idx ds237 (0 : Int)).bind fun x238 => some (!(isA "str" x238)))).bind fun b239 => some b239)).bind fun b240 => bif b240 then some false else (sq x_value).bind fun ds241 => (idx ds241 (0 : Int)).bind fun x242 => (gdS x242 (PyData.str ("beside" : Str))).bind fun u243 => (oand (PyData.eqv x242 (PyData.str ("beside" : Str))) ((sq x_value).bind fun ds244 => some (decide ((ds244.length : Int) = (2 : Int))))).bind fun b245 => bif b245 then (sq x_value).bind fun ds246 => (idx ds246 (1 : Int)).bind fun x247 => (oor (!(isA "tuple" x247)) ((sq x247).bind fun ds248 => (szL ds248).bind fun u249 => (lcF (fun (x250 : D) => (oor (!(isA "tuple" x250)) ((gd (okR x250)).bind fun u251 => (szL r235).bind fun u252 => (lcF (fun (x253 : (List Int)) => (gd (okR ((eT PyData.int) x253))).bind fun u254 => some (some ((((eT PyData.int) x253)).shown))) r235).bind fun ys255 => (gd (SeqAt.shaped (PyData.str ((x250).shown)))).bind fun u256 => (gd (SeqAt.shaped ((eL PyData.str) ys255))).bind fun u257 => some (!decide ((x250).shown ∈ ys255)))).bind fun b258 => bif b258 then some (some x250) else some none) ds248).bind fun ys259 => some (decide ((0 : Int) < (ys259.length : Int))))).bind fun b260 => bif b260 then some false else (sq x247).bind fun ds261 => (oor (decide ((ds261.length : Int) = (0 : Int))) ((toTW x247).bind fun w262 => (m__law_made x_wheels w262).bind fun r263 => (gdS ((eT (eT PyData.int)) r263) x247).bind fun u264 => some (!PyData.eqv ((eT (eT PyData.int)) r263) x247))).bind fun b265 => bif b265 then some false else (toTW x247).bind fun w266 => (szL w266).bind fun u267 => (oand (decide ((((w266.filter (fun (x268 : (List Int)) => (decide (x268 ∈ x_group)))).map (fun (x268 : (List Int)) => x268)).length : Int) = (1 : Int))) ((sq x247).bind fun ds269 => (pmul (ds269.length : Int) (x_group.length : Int)).bind fun n270 => some (decide (n270 = (r235.length : Int))))).bind fun b271 => some b271 else (sq x_value).bind fun ds272 => (idx ds272 (0 : Int)).bind fun x273 => (gdS x273 (PyData.str ("stuck" : Str))).bind fun u274 => (oor (!PyData.eqv x273 (PyData.str ("stuck" : Str))) ((sq x_value).bind fun ds275 => (oor (!decide ((ds275.length : Int) = (3 : Int))) ((sq x_value).bind fun ds276 => (idx ds276 (1 : Int)).bind fun x277 => (m__law_is_integer x277).bind fun r278 => (oor (!r278) ((sq x_value).bind fun ds279 => (idx ds279 (1 : Int)).bind fun x280 => (toI x280).bind fun i281 => some (decide (i281 < (1 : Int))))).bind fun b282 => some b282)).bind fun b283 => some b283)).bind fun b284 => bif b284 then some false else (sq x_value).bind fun ds285 => (idx ds285 (2 : Int)).bind fun x286 => (oor (!(isA "tuple" x286)) ((sq x_value).bind fun ds287 => (idx ds287 (2 : Int)).bind fun x288 => (gd (okR x288)).bind fun u289 => (szL x_group).bind fun u290 => (lcF (fun (x291 : (List Int)) => (gd (okR ((eT PyData.int) x291))).bind fun u292 => some (some ((((eT PyData.int) x291)).shown))) x_group).bind fun ys293 => (gd (SeqAt.shaped (PyData.str ((x288).shown)))).bind fun u294 => (gd (SeqAt.shaped ((eL PyData.str) ys293))).bind fun u295 => some (!decide ((x288).shown ∈ ys293)))).bind fun b296 => bif b296 then some false else (szL x_group).bind fun u297 => (lcF (fun (x298 : (List Int)) => (sq x_value).bind fun ds304 => (idx ds304 (1 : Int)).bind fun x305 => (toI x305).bind fun i306 => (m__law_times x_wheels i306 x298).bind fun r307 => some (some r307)) x_group).bind fun ys308 => (sq x_value).bind fun ds309 => (idx ds309 (2 : Int)).bind fun x310 => (toW x310).bind fun w311 => (oand (!decide (w311 ∈ ys308)) ((sq x_value).bind fun ds312 => (idx ds312 (2 : Int)).bind fun x313 => (szL r235).bind fun u314 => (lcF (fun (x315 : (List Int)) => (sq x_value).bind fun ds316 => (idx ds316 (1 : Int)).bind fun x317 => (toI x317).bind fun i318 => (m__law_times x_wheels i318 x315).bind fun r319 => some (some r319)) r235).bind fun ys320 => (toW x313).bind fun w321 => some (decide (w321 ∈ ys320)))).bind fun b322 => some b322
def M__law_right (ds : List D) (d : D) : Prop := ∃ (x_wheels : (List Int)) (x_group : (List (List Int))) (x_value : D) (r : Bool), ds = [(eT PyData.int) x_wheels, (eT (eT PyData.int)) x_group, eD x_value] ∧ m__law_right x_wheels x_group x_value = some r ∧ d = PyData.bool r
theorem mk__law_right {x_wheels : (List Int)} {x_group : (List (List Int))} {x_value : D} {r : Bool} (h : m__law_right x_wheels x_group x_value = some r) : M__law_right [(eT PyData.int) x_wheels, (eT (eT PyData.int)) x_group, eD x_value] (PyData.bool r) := ⟨x_wheels, x_group, x_value, r, rfl, h, rfl⟩
abbrev s__law_right : Stmt := top 44
theorem sc__law_right : FnScope ["wheels", "group", "value", "every", "own", "other", "x", "y"] ["wheels", "group", "value"] (defScope s__law_right) := ⟨rfl, rfl, rfl, by decide +kernel, rfl, by decide +kernel, by decide +kernel⟩
theorem o__law_right (F : FnP K "_law_right" s__law_right f fd) (c__law_all : CalG [] P w K mg base 1 "_law_all" (spF 1 M__law_all) []) (c__law_made : CalG [] P w K mg base 2 "_law_made" (spF 2 M__law_made) []) (c__law_is_integer : CalG [] P w K mg base 1 "_law_is_integer" (spF 1 M__law_is_integer) []) (c__law_times : CalG [] P w K mg base 1 "_law_times" (spF 3 M__law_times) []) (hm_isinstance : mg "isinstance" = none) (hm_len : mg "len" = none) (hm_repr : mg "repr" = none) (hm_str : mg "str" = none) (hm_tuple : mg "tuple" = none) : FnOkG [] P w K mg base CX0 3 f fd ["wheels", "group", "value"] (spF 3 M__law_right) := by
  refine ok_fn (k := 2) F sc__law_right rfl (by decide) fun cdv A outer s H E hr ht ds d hM hl => ?_
  obtain ⟨x_wheels, x_group, x_value, r, rfl, h, rfl⟩ := hM
  have nd := sc__law_right.nd
  unfold m__law_right at h
  obtain ⟨r235, hr235, g⟩ := obind h; clear h; have h := g; clear g
  refine gs_set 3 nd (g_call c__law_all hr tbn (mk__law_all hr235) (ga_cons (g_v 0 rfl) ga_nil)) ?_
  refine gs_re [.sh ((eT PyData.int) x_wheels), .sh ((eT (eT PyData.int)) x_group), .sh (eD x_value), .sh ((eL (eT PyData.int)) r235), .any, .any, .any, .any] rfl ?_
  obtain ⟨b240, hb240, g⟩ := obind h; clear h; have h := g; clear g
  refine gs_ifC h (GW.gt (w_orO hb240 (gt_not (gt_val (g_isi (T := "tuple") (by decide +kernel) (by decide +kernel) hm_isinstance hm_tuple (GE.gv (g_v 2 rfl))))) (fun h => by obtain ⟨ds236, hds236, g⟩ := obind h; clear h; have h := g; clear g; obtain ⟨b239, hb239, g⟩ := obind h; clear h; have h := g; clear g; obtain rfl := oret h; exact (w_orO hb239 (gt_cmpE op_lt (g_len hm_len hds236 (GE.gv (g_v 2 rfl))) (GE.gv g_int) v_lt rfl) (fun h => by obtain ⟨ds237, hds237, g⟩ := obind h; clear h; have h := g; clear g; obtain ⟨x238, hx238, g⟩ := obind h; clear h; have h := g; clear g; obtain rfl := oret h; exact (gw_or1 (gt_not (gt_val (g_isi (T := "str") (by decide +kernel) (by decide +kernel) hm_isinstance hm_str (GE.gv (g_ix hds237 hx238 (GE.gv (g_v 2 rfl)) g_int))))))))))) (fun h => ?_) (fun h => ?_)
  · obtain rfl := oret h
    exact gs_ret g_bl (Exists.intro _ rfl)
  · refine gs_nil ?_
    show GS _ _ _ _
    refine gs_re [.sh ((eT PyData.int) x_wheels), .sh ((eT (eT PyData.int)) x_group), .sh (eD x_value), .sh ((eL (eT PyData.int)) r235), .any, .any, .any, .any] rfl ?_
    obtain ⟨ds241, hds241, g⟩ := obind h; clear h; have h := g; clear g
    obtain ⟨x242, hx242, g⟩ := obind h; clear h; have h := g; clear g
    obtain ⟨u243, hu243, g⟩ := obind h; clear h; have h := g; clear g
    obtain ⟨b245, hb245, g⟩ := obind h; clear h; have h := g; clear g
    refine gs_ifC h (GW.gt (w_andO hb245 (gt_cmp (op_eqD (un64 hr)) (GE.gv (g_ix hds241 hx242 (GE.gv (g_v 2 rfl)) g_int)) (GE.gv g_str) (v_eqG hu243) rfl) (fun h => by obtain ⟨ds244, hds244, g⟩ := obind h; clear h; have h := g; clear g; obtain rfl := oret h; exact (gw_and1 (gt_cmp op_eq (GE.gv (g_len hm_len hds244 (GE.gv (g_v 2 rfl)))) (GE.gv g_int) v_eqI rfl))))) (fun h => ?_) (fun h => ?_)
    · obtain ⟨ds246, hds246, g⟩ := obind h; clear h; have h := g; clear g
      obtain ⟨x247, hx247, g⟩ := obind h; clear h; have h := g; clear g
      refine gs_set 5 nd (g_ix hds246 hx247 (GE.gv (g_v 2 rfl)) g_int) ?_
      refine gs_re [.sh ((eT PyData.int) x_wheels), .sh ((eT (eT PyData.int)) x_group), .sh (eD x_value), .sh ((eL (eT PyData.int)) r235), .any, .sh (eD x247), .any, .any] rfl ?_
      obtain ⟨b260, hb260, g⟩ := obind h; clear h; have h := g; clear g
      refine gs_ifC h (GW.gt (w_orO hb260 (gt_not (gt_val (g_isi (T := "tuple") (by decide +kernel) (by decide +kernel) hm_isinstance hm_tuple (GE.gv (g_v 5 rfl))))) (fun h => by obtain ⟨ds248, hds248, g⟩ := obind h; clear h; have h := g; clear g; obtain ⟨u249, hu249, g⟩ := obind h; clear h; have h := g; clear g; obtain ⟨ys259, hys259, g⟩ := obind h; clear h; have h := g; clear g; obtain rfl := oret h; exact (gw_or1 (gt_cmpE op_gt (t_len (xs := ys259) (ε := eD) hm_len rfl (GL.v (g_lc (ε := eD) (ε' := eD) hys259 (szL_le hu249) rfl nd (own := [("x", 6)]) (blkOk_by (by first | rfl | kernel_rfl)) (by rw [eD_map]; exact gi_seq hds248 (g_v 5 rfl)) (NoOwn.by rfl) (fun x250 hx o h => by obtain ⟨b258, hb258, g⟩ := obind h; clear h; have h := g; clear g; exact turn_if h (fun B => (gg_name 6 nd)) (fun B => (GW.gt (w_orO hb258 (gt_not (gt_val (g_isi (T := "tuple") (by decide +kernel) (by decide +kernel) hm_isinstance hm_tuple (GE.gv (g_v 6 rfl))))) (fun h => by obtain ⟨u251, hu251, g⟩ := obind h; clear h; have h := g; clear g; obtain ⟨u252, hu252, g⟩ := obind h; clear h; have h := g; clear g; obtain ⟨ys255, hys255, g⟩ := obind h; clear h; have h := g; clear g; obtain ⟨u256, hu256, g⟩ := obind h; clear h; have h := g; clear g; obtain ⟨u257, hu257, g⟩ := obind h; clear h; have h := g; clear g; obtain rfl := oret h; exact (gw_or1 (gt_cmpE (op_notInS hr) (g_repr hr (gd_t hu251) hm_repr (g_v 6 rfl)) (GL.v (g_lc (ε := (eT PyData.int)) (ε' := PyData.str) hys255 (szL_le hu252) rfl nd (own := [("y", 7)]) (blkOk_by (by first | rfl | kernel_rfl)) (gi_list (g_v 3 rfl)) (NoOwn.by rfl) (fun x253 hx o h => by obtain ⟨u254, hu254, g⟩ := obind h; clear h; have h := g; clear g; obtain rfl := oret h; exact turn_val (fun B => (gg_name 7 nd)) (fun B => (g_repr hr (gd_t hu254) hm_repr (g_v 7 rfl)))))) (v_notInStr (xs := ys255) (gd_t hu256) rfl (gd_t hu257)) rfl)))))) (fun h => by exact ⟨_, _, (oret h).symm, (fun B => (g_v 6 rfl)), rfl⟩))))) (GE.gv g_int) v_gt rfl))))) (fun h => ?_) (fun h => ?_)
      · obtain rfl := oret h
        exact gs_ret g_bl (Exists.intro _ rfl)
      · refine gs_nil ?_
        show GS _ _ _ _
        refine gs_re [.sh ((eT PyData.int) x_wheels), .sh ((eT (eT PyData.int)) x_group), .sh (eD x_value), .sh ((eL (eT PyData.int)) r235), .any, .sh (eD x247), .any, .any] rfl ?_
        obtain ⟨ds261, hds261, g⟩ := obind h; clear h; have h := g; clear g
        obtain ⟨b265, hb265, g⟩ := obind h; clear h; have h := g; clear g
        refine gs_ifC h (GW.gt (w_orO hb265 (gt_cmp op_eq (GE.gv (g_len hm_len hds261 (GE.gv (g_v 5 rfl)))) (GE.gv g_int) v_eqI rfl) (fun h => by obtain ⟨w262, hw262, g⟩ := obind h; clear h; have h := g; clear g; obtain ⟨r263, hr263, g⟩ := obind h; clear h; have h := g; clear g; obtain ⟨u264, hu264, g⟩ := obind h; clear h; have h := g; clear g; obtain rfl := oret h; exact (gw_or1 (gt_cmp (op_neD (un64 hr)) (GE.gv (g_call c__law_made hr tbn (mk__law_made rfl hr263) (ga_cons (g_v 0 rfl) (ga_cons (GE.toTW hw262 (g_v 5 rfl)) ga_nil)))) (GE.gv (g_v 5 rfl)) (v_neG hu264) rfl))))) (fun h => ?_) (fun h => ?_)
        · obtain rfl := oret h
          exact gs_ret g_bl (Exists.intro _ rfl)
        · refine gs_nil ?_
          show GS _ _ _ _
          refine gs_re [.sh ((eT PyData.int) x_wheels), .sh ((eT (eT PyData.int)) x_group), .sh (eD x_value), .sh ((eL (eT PyData.int)) r235), .any, .sh (eD x247), .any, .any] rfl ?_
          obtain ⟨w266, hw266, g⟩ := obind h; clear h; have h := g; clear g
          obtain ⟨u267, hu267, g⟩ := obind h; clear h; have h := g; clear g
          obtain ⟨b271, hb271, g⟩ := obind h; clear h; have h := g; clear g
          obtain rfl := oret h
          exact gs_ret (b_andO hb271 (g_cmp op_eq (GE.gv (t_len (xs := ((w266.filter (fun (x268 : (List Int)) => (decide (x268 ∈ x_group)))).map (fun (x268 : (List Int)) => x268))) (ε := (eT PyData.int)) hm_len rfl (GL.v (g_lc (ε := (eT PyData.int)) (ε' := (eT PyData.int)) (lcF_filter (f := (fun (x268 : (List Int)) => x268)) (p := (fun (x268 : (List Int)) => (decide (x268 ∈ x_group))))) (szL_le hu267) rfl nd (own := [("x", 6)]) (blkOk_by (by first | rfl | kernel_rfl)) (gi_tup (GE.toTW hw266 (g_v 5 rfl))) (NoOwn.by rfl) (fun x268 hx o h => by have h : (bif (decide (x268 ∈ x_group)) then some (some x268) else some none) = some o := by { rw [← oret h]; cases (decide (x268 ∈ x_group)) <;> rfl }; exact turn_if h (fun B => (gg_name 6 nd)) (fun B => (gt_cmpE (op_inS hr) (g_v 6 rfl) (GE.gv (g_v 1 rfl)) (v_inT (Eqv.T Eqv.int) (Sh.T Sh.int) (xs := x_group) rfl (Sh.shaped (Sh.T (Sh.T Sh.int)) (by decide) x_group)) rfl)) (fun h => by exact ⟨_, _, (oret h).symm, (fun B => (g_v 6 rfl)), rfl⟩)))))) (GE.gv g_int) v_eqI rfl) (fun h => by obtain ⟨ds269, hds269, g⟩ := obind h; clear h; have h := g; clear g; obtain ⟨n270, hn270, g⟩ := obind h; clear h; have h := g; clear g; obtain rfl := oret h; exact (g_one (g_cmp op_eq (GE.gv (g_mul hn270 (g_len hm_len hds269 (GE.gv (g_v 5 rfl))) (t_len (xs := x_group) (ε := (eT PyData.int)) hm_len rfl (GE.gv (g_v 1 rfl))))) (GE.gv (t_len (xs := r235) (ε := (eT PyData.int)) hm_len rfl (GE.gv (g_v 3 rfl)))) v_eqI rfl)))) (Exists.intro _ rfl)
    · refine gs_nil ?_
      show GS _ _ _ _
      refine gs_re [.sh ((eT PyData.int) x_wheels), .sh ((eT (eT PyData.int)) x_group), .sh (eD x_value), .sh ((eL (eT PyData.int)) r235), .any, .any, .any, .any] rfl ?_
      obtain ⟨ds272, hds272, g⟩ := obind h; clear h; have h := g; clear g
      obtain ⟨x273, hx273, g⟩ := obind h; clear h; have h := g; clear g
      obtain ⟨u274, hu274, g⟩ := obind h; clear h; have h := g; clear g
      obtain ⟨b284, hb284, g⟩ := obind h; clear h; have h := g; clear g
      refine gs_ifC h (GW.gt (w_orO hb284 (gt_cmp (op_neD (un64 hr)) (GE.gv (g_ix hds272 hx273 (GE.gv (g_v 2 rfl)) g_int)) (GE.gv g_str) (v_neG hu274) rfl) (fun h => by obtain ⟨ds275, hds275, g⟩ := obind h; clear h; have h := g; clear g; obtain ⟨b283, hb283, g⟩ := obind h; clear h; have h := g; clear g; obtain rfl := oret h; exact (w_orO hb283 (gt_cmp op_ne (GE.gv (g_len hm_len hds275 (GE.gv (g_v 2 rfl)))) (GE.gv g_int) v_neI rfl) (fun h => by obtain ⟨ds276, hds276, g⟩ := obind h; clear h; have h := g; clear g; obtain ⟨x277, hx277, g⟩ := obind h; clear h; have h := g; clear g; obtain ⟨r278, hr278, g⟩ := obind h; clear h; have h := g; clear g; obtain ⟨b282, hb282, g⟩ := obind h; clear h; have h := g; clear g; obtain rfl := oret h; exact (w_orO hb282 (gt_not (gt_val (g_call c__law_is_integer hr tbn (mk__law_is_integer hr278) (ga_cons (g_ix hds276 hx277 (GE.gv (g_v 2 rfl)) g_int) ga_nil)))) (fun h => by obtain ⟨ds279, hds279, g⟩ := obind h; clear h; have h := g; clear g; obtain ⟨x280, hx280, g⟩ := obind h; clear h; have h := g; clear g; obtain ⟨i281, hi281, g⟩ := obind h; clear h; have h := g; clear g; obtain rfl := oret h; exact (gw_or1 (gt_cmpE op_lt (GE.toI hi281 (g_ix hds279 hx280 (GE.gv (g_v 2 rfl)) g_int)) (GE.gv g_int) v_lt rfl))))))))) (fun h => ?_) (fun h => ?_)
      · obtain rfl := oret h
        exact gs_ret g_bl (Exists.intro _ rfl)
      · refine gs_nil ?_
        show GS _ _ _ _
        refine gs_re [.sh ((eT PyData.int) x_wheels), .sh ((eT (eT PyData.int)) x_group), .sh (eD x_value), .sh ((eL (eT PyData.int)) r235), .any, .any, .any, .any] rfl ?_
        obtain ⟨ds285, hds285, g⟩ := obind h; clear h; have h := g; clear g
        obtain ⟨x286, hx286, g⟩ := obind h; clear h; have h := g; clear g
        obtain ⟨b296, hb296, g⟩ := obind h; clear h; have h := g; clear g
        refine gs_ifC h (GW.gt (w_orO hb296 (gt_not (gt_val (g_isi (T := "tuple") (by decide +kernel) (by decide +kernel) hm_isinstance hm_tuple (GE.gv (g_ix hds285 hx286 (GE.gv (g_v 2 rfl)) g_int))))) (fun h => by obtain ⟨ds287, hds287, g⟩ := obind h; clear h; have h := g; clear g; obtain ⟨x288, hx288, g⟩ := obind h; clear h; have h := g; clear g; obtain ⟨u289, hu289, g⟩ := obind h; clear h; have h := g; clear g; obtain ⟨u290, hu290, g⟩ := obind h; clear h; have h := g; clear g; obtain ⟨ys293, hys293, g⟩ := obind h; clear h; have h := g; clear g; obtain ⟨u294, hu294, g⟩ := obind h; clear h; have h := g; clear g; obtain ⟨u295, hu295, g⟩ := obind h; clear h; have h := g; clear g; obtain rfl := oret h; exact (gw_or1 (gt_cmpE (op_notInS hr) (g_repr hr (gd_t hu289) hm_repr (g_ix hds287 hx288 (GE.gv (g_v 2 rfl)) g_int)) (GL.v (g_lc (ε := (eT PyData.int)) (ε' := PyData.str) hys293 (szL_le hu290) rfl nd (own := [("y", 7)]) (blkOk_by (by first | rfl | kernel_rfl)) (gi_tup (g_v 1 rfl)) (NoOwn.by rfl) (fun x291 hx o h => by obtain ⟨u292, hu292, g⟩ := obind h; clear h; have h := g; clear g; obtain rfl := oret h; exact turn_val (fun B => (gg_name 7 nd)) (fun B => (g_repr hr (gd_t hu292) hm_repr (g_v 7 rfl)))))) (v_notInStr (xs := ys293) (gd_t hu294) rfl (gd_t hu295)) rfl))))) (fun h => ?_) (fun h => ?_)
        · obtain rfl := oret h
          exact gs_ret g_bl (Exists.intro _ rfl)
        · refine gs_nil ?_
          show GS _ _ _ _
          refine gs_re [.sh ((eT PyData.int) x_wheels), .sh ((eT (eT PyData.int)) x_group), .sh (eD x_value), .sh ((eL (eT PyData.int)) r235), .any, .any, .any, .any] rfl ?_
          obtain ⟨u297, hu297, g⟩ := obind h; clear h; have h := g; clear g
          obtain ⟨ys308, hys308, g⟩ := obind h; clear h; have h := g; clear g
          refine gs_setLc 4 (ε := (eT PyData.int)) (ε' := (eT PyData.int)) hys308 (szL_le hu297) rfl nd (own := [("x", 6)]) (blkOk_by (by first | rfl | kernel_rfl)) (gi_tup (g_v 1 rfl)) (NoOwn.by rfl) (fun x298 hx o h => by obtain ⟨ds304, hds304, g⟩ := obind h; clear h; have h := g; clear g; obtain ⟨x305, hx305, g⟩ := obind h; clear h; have h := g; clear g; obtain ⟨i306, hi306, g⟩ := obind h; clear h; have h := g; clear g; obtain ⟨r307, hr307, g⟩ := obind h; clear h; have h := g; clear g; obtain rfl := oret h; exact turn_val (fun B => (gg_name 6 nd)) (fun B => (g_call c__law_times hr tbn (mk__law_times hr307) (ga_cons (g_v 0 rfl) (ga_cons (GE.toI hi306 (g_ix hds304 hx305 (GE.gv (g_v 2 rfl)) g_int)) (ga_cons (g_v 6 rfl) ga_nil)))))) ?_
          refine gs_re [.sh ((eT PyData.int) x_wheels), .sh ((eT (eT PyData.int)) x_group), .sh (eD x_value), .sh ((eL (eT PyData.int)) r235), .ol (ys308.map (eT PyData.int)), .any, .any, .any] rfl ?_
          obtain ⟨ds309, hds309, g⟩ := obind h; clear h; have h := g; clear g
          obtain ⟨x310, hx310, g⟩ := obind h; clear h; have h := g; clear g
          obtain ⟨w311, hw311, g⟩ := obind h; clear h; have h := g; clear g
          obtain ⟨b322, hb322, g⟩ := obind h; clear h; have h := g; clear g
          obtain rfl := oret h
          exact gs_ret (b_andO hb322 (g_cmpE (op_notInS hr) (GE.toW hw311 (g_ix hds309 hx310 (GE.gv (g_v 2 rfl)) g_int)) (g_vo 4 rfl) (v_notInT (Eqv.T Eqv.int) (Sh.T Sh.int) (xs := ys308) rfl (Sh.shaped (Sh.L (Sh.T Sh.int)) (by decide) ys308)) rfl) (fun h => by obtain ⟨ds312, hds312, g⟩ := obind h; clear h; have h := g; clear g; obtain ⟨x313, hx313, g⟩ := obind h; clear h; have h := g; clear g; obtain ⟨u314, hu314, g⟩ := obind h; clear h; have h := g; clear g; obtain ⟨ys320, hys320, g⟩ := obind h; clear h; have h := g; clear g; obtain ⟨w321, hw321, g⟩ := obind h; clear h; have h := g; clear g; obtain rfl := oret h; exact (g_one (g_cmpE (op_inS hr) (GE.toW hw321 (g_ix hds312 hx313 (GE.gv (g_v 2 rfl)) g_int)) (GL.v (g_lc (ε := (eT PyData.int)) (ε' := (eT PyData.int)) hys320 (szL_le hu314) rfl nd (own := [("x", 6)]) (blkOk_by (by first | rfl | kernel_rfl)) (gi_list (g_v 3 rfl)) (NoOwn.by rfl) (fun x315 hx o h => by obtain ⟨ds316, hds316, g⟩ := obind h; clear h; have h := g; clear g; obtain ⟨x317, hx317, g⟩ := obind h; clear h; have h := g; clear g; obtain ⟨i318, hi318, g⟩ := obind h; clear h; have h := g; clear g; obtain ⟨r319, hr319, g⟩ := obind h; clear h; have h := g; clear g; obtain rfl := oret h; exact turn_val (fun B => (gg_name 6 nd)) (fun B => (g_call c__law_times hr tbn (mk__law_times hr319) (ga_cons (g_v 0 rfl) (ga_cons (GE.toI hi318 (g_ix hds316 hx317 (GE.gv (g_v 2 rfl)) g_int)) (ga_cons (g_v 6 rfl) ga_nil)))))))) (v_inT (Eqv.T Eqv.int) (Sh.T Sh.int) (xs := ys320) rfl (Sh.shaped (Sh.L (Sh.T Sh.int)) (by decide) ys320)) rfl)))) (Exists.intro _ rfl)
def m_splits_off (x_wheels : (List Int)) (x_group : (List (List Int))) : Option Bool := (m_split_paper x_wheels x_group).bind fun r324 => (sq r324).bind fun ds325 => (idx ds325 (0 : Int)).bind fun x326 => (gdS x326 (PyData.str ("beside" : Str))).bind fun u327 => some (PyData.eqv x326 (PyData.str ("beside" : Str)))
def M_splits_off (ds : List D) (d : D) : Prop := ∃ (x_wheels : (List Int)) (x_group : (List (List Int))) (r : Bool), ds = [(eT PyData.int) x_wheels, (eT (eT PyData.int)) x_group] ∧ m_splits_off x_wheels x_group = some r ∧ d = PyData.bool r
theorem mk_splits_off {x_wheels : (List Int)} {x_group : (List (List Int))} {r : Bool} (h : m_splits_off x_wheels x_group = some r) : M_splits_off [(eT PyData.int) x_wheels, (eT (eT PyData.int)) x_group] (PyData.bool r) := ⟨x_wheels, x_group, r, rfl, h, rfl⟩
abbrev s_splits_off : Stmt := top 27
theorem sc_splits_off : FnScope ["wheels", "group"] ["wheels", "group"] (defScope s_splits_off) := ⟨rfl, rfl, rfl, by decide +kernel, rfl, by decide +kernel, by decide +kernel⟩
theorem o_splits_off (F : FnP K "splits_off" s_splits_off f fd) (c_split_paper : CalG cs P w K mg base 5 "split_paper" (spF 2 M_split_paper) []) : FnOkG cs P w K mg base CX0 6 f fd ["wheels", "group"] (spF 2 M_splits_off) := by
  refine ok_fn (k := 5) F sc_splits_off rfl (by decide) fun cdv A outer s H E hr ht ds d hM hl => ?_
  obtain ⟨x_wheels, x_group, r, rfl, h, rfl⟩ := hM
  have nd := sc_splits_off.nd
  unfold m_splits_off at h
  obtain ⟨r324, hr324, g⟩ := obind h; clear h; have h := g; clear g
  obtain ⟨ds325, hds325, g⟩ := obind h; clear h; have h := g; clear g
  obtain ⟨x326, hx326, g⟩ := obind h; clear h; have h := g; clear g
  obtain ⟨u327, hu327, g⟩ := obind h; clear h; have h := g; clear g
  obtain rfl := oret h
  exact gs_ret (g_cmp (op_eqD (un64 hr)) (GE.gv (g_ix hds325 hx326 (GE.gv (g_call c_split_paper hr ht (mk_split_paper hr324) (ga_cons (g_v 0 rfl) (ga_cons (g_v 1 rfl) ga_nil)))) g_int)) (GE.gv g_str) (v_eqG hu327) rfl) (Exists.intro _ rfl)
def m__law_bent : Nat → Pool → D → Option (D × Pool)
  | 0, _, _ => none
  | n + 1, x_pool, x_value => (oandP (isA "tuple" x_value) ((sq x_value).bind fun ds347 => (oandP (decide ((0 : Int) < (ds347.length : Int))) ((m__law_draw x_pool (3 : Int)).bind fun r348 => some ((decide ((0 : Int) < r348.1)), r348.2)) x_pool).bind fun b349 => some (b349.1, b349.2)) x_pool).bind fun b350 => bif b350.1 then (toTD x_value).bind fun d351 => (m__law_draw b350.2 (d351.length : Int)).bind fun r352 => (idx d351 r352.1).bind fun x356 => (m__law_bent n r352.2 x356).bind fun r357 => (szOk ((cut d351 none (some r352.1)).length + [r357.1].length)).bind fun u358 => (szOk (((cut d351 none (some r352.1)) ++ [r357.1]).length + (cut d351 (some (r352.1 + (1 : Int))) none).length)).bind fun u359 => some ((eT eD) (((cut d351 none (some r352.1)) ++ [r357.1]) ++ (cut d351 (some (r352.1 + (1 : Int))) none)), r357.2) else (m__law_draw b350.2 (9 : Int)).bind fun r360 => bif (decide (r360.1 = (0 : Int))) then (m__law_draw r360.2 (8 : Int)).bind fun r361 => (idx [PyData.str ("x" : Str), PyData.bool true, (eT eD) [], PyData.int (0 : Int), PyData.int (-(1 : Int)), PyData.none, PyData.bool false, (eL eD) []] r361.1).bind fun x362 => some (x362, r361.2) else (m__law_is_integer x_value).bind fun r363 => bif r363 then (toI x_value).bind fun d364 => (m__law_draw r360.2 (4 : Int)).bind fun r365 => (idx [(1 : Int), (-(1 : Int)), (2 : Int), (0 : Int)] r365.1).bind fun x366 => some (PyData.int (d364 + x366), r365.2) else bif (isA "str" x_value) then (toS x_value).bind fun d367 => (szOk (d367.length + ("a" : Str).length)).bind fun u368 => (szOk d367.length).bind fun u369 => (szOk (d367.length + ("A" : Str).length)).bind fun u370 => (szOk (d367.length + (" " : Str).length)).bind fun u371 => (szOk d367.length).bind fun u372 => (m__law_draw r360.2 (5 : Int)).bind fun r373 => (idx [(d367 ++ ("a" : Str)), (cutS d367 (some (1 : Int)) none), (d367 ++ ("A" : Str)), (d367 ++ (" " : Str)), (cutS d367 none (some (1 : Int)))] r373.1).bind fun x374 => some (PyData.str x374, r373.2) else (oor (!(isA "tuple" x_value)) ((sq x_value).bind fun ds375 => some (decide ((ds375.length : Int) = (0 : Int))))).bind fun b376 => bif b376 then some ((bif (decide (r360.1 < (5 : Int))) then (eP eD PyData.int) (x_value, (0 : Int)) else (eT eD) []), r360.2) else (toTD x_value).bind fun d377 => (m__law_draw r360.2 (d377.length : Int)).bind fun r378 => bif (decide (r360.1 < (3 : Int))) then (szOk ((cut d377 none (some r378.1)).length + (cut d377 (some (r378.1 + (1 : Int))) none).length)).bind fun u379 => some ((eT eD) ((cut d377 none (some r378.1)) ++ (cut d377 (some (r378.1 + (1 : Int))) none)), r378.2) else bif (decide (r360.1 < (5 : Int))) then (idx d377 r378.1).bind fun x382 => (szOk ((cut d377 none (some r378.1)).length + [x382].length)).bind fun u383 => (szOk (((cut d377 none (some r378.1)) ++ [x382]).length + (cut d377 (some r378.1) none).length)).bind fun u384 => some ((eT eD) (((cut d377 none (some r378.1)) ++ [x382]) ++ (cut d377 (some r378.1) none)), r378.2) else bif (decide (r360.1 = (5 : Int))) then some ((eL eD) d377, r378.2) else (m__law_draw r378.2 (d377.length : Int)).bind fun r385 => (idx d377 r385.1).bind fun x386 => (ixN d377.length r378.1).bind fun k387 => (idx d377 r378.1).bind fun x388 => (ixN (d377.set k387 x386).length r385.1).bind fun k389 => some ((eT eD) ((d377.set k387 x386).set k389 x388), r385.2)
def M__law_bent (n : Nat) (pd ds : List D) (d : D) (pd' : List D) : Prop := ∃ (x_pool : Pool) (x_value : D) (r : (D × Pool)), pd = ePool x_pool ∧ ds = [eD x_value] ∧ m__law_bent n x_pool x_value = some r ∧ d = eD r.1 ∧ pd' = ePool r.2
theorem mk__law_bent {n : Nat} {x_pool : Pool} {x_value : D} {r : (D × Pool)} (h : m__law_bent n x_pool x_value = some r) : M__law_bent n (ePool x_pool) [eD x_value] (eD r.1) (ePool r.2) := ⟨x_pool, x_value, r, rfl, rfl, h, rfl, rfl⟩
abbrev s__law_bent : Stmt := top 35
theorem sc__law_bent : FnScope ["pool", "value", "turn", "at", "other", "items"] ["pool", "value"] (defScope s__law_bent) := ⟨rfl, rfl, rfl, by decide +kernel, rfl, by decide +kernel, by decide +kernel⟩
theorem o__law_bent (F : FnP K "_law_bent" s__law_bent f fd) (c__law_draw : CalG [] P w K mg base 2 "_law_draw" (spP 2 M__law_draw) []) (c__law_is_integer : CalG [] P w K mg base 1 "_law_is_integer" (spF 1 M__law_is_integer) []) (hm_isinstance : mg "isinstance" = none) (hm_len : mg "len" = none) (hm_list : mg "list" = none) (hm_str : mg "str" = none) (hm_tuple : mg "tuple" = none) (hm_self : mg "_law_bent" = some (.ref f)) (hb_self : Binds K fd ["pool", "value"] []) : ∀ n, FnOkG [] P w K mg base CX0 (2 + n + 1) f fd ["pool", "value"] (spP 2 (M__law_bent n)) := by
  intro n
  induction n with
  | zero =>
    refine ok_fnP (k := 2) F sc__law_bent rfl (by decide) fun cdv A outer s H E hr ht q pd ds d pd' hM hl => ?_
    obtain ⟨x_pool, x_value, r, rfl, rfl, h, rfl, rfl⟩ := hM
    cases h
  | succ n ih =>
    have c__law_bent : CalG [] P w K mg base (2 + n + 1) "_law_bent" (spP 2 (M__law_bent n)) [] := cal_of F ih hm_self hb_self
    refine ok_fnP (k := 2 + n + 1) F sc__law_bent rfl (by decide) fun cdv A outer s H E hr ht q pd ds d pd' hM hl => ?_
    obtain ⟨x_pool, x_value, r, rfl, rfl, h, rfl, rfl⟩ := hM
    have nd := sc__law_bent.nd
    unfold m__law_bent at h
    obtain ⟨b350, hb350, g⟩ := obind h; clear h; have h := g; clear g
    refine gs_ifC h (GW.gt (w_andP (v := b350) (S := Pool) (Cs := fun s => [.op q (ePool s), .sh (eD x_value), .any, .any, .any, .any]) hb350 rfl (gt_val (g_isi (T := "tuple") (by decide +kernel) (by decide +kernel) hm_isinstance hm_tuple (GE.gv (g_v 1 rfl)))) (fun h => by obtain ⟨ds347, hds347, g⟩ := obind h; clear h; have h := g; clear g; obtain ⟨b349, hb349, g⟩ := obind h; clear h; have h := g; clear g; obtain rfl := oret h; exact (w_andP (v := b349) (S := Pool) (Cs := fun s => [.op q (ePool s), .sh (eD x_value), .any, .any, .any, .any]) hb349 rfl (gt_cmpE op_gt (g_len hm_len hds347 (GE.gv (g_v 1 rfl))) (GE.gv g_int) v_gt rfl) (fun h => by obtain ⟨r348, hr348, g⟩ := obind h; clear h; have h := g; clear g; obtain rfl := oret h; exact (gw_and1 (gt_cmpE op_gt (g_callP 0 c__law_draw hr tbn rfl rfl (ga_cons g_int ga_nil) rfl rfl (mk__law_draw hr348) (hk := by omega)) (GE.gv g_int) v_gt rfl))))))) (fun h => ?_) (fun h => ?_)
    · obtain ⟨d351, hd351, g⟩ := obind h; clear h; have h := g; clear g
      rw [toTD_eq hd351]
      obtain ⟨r352, hr352, g⟩ := obind h; clear h; have h := g; clear g
      refine gs_set 3 nd (g_callP 0 c__law_draw hr tbn rfl rfl (ga_cons (t_len (xs := d351) (ε := eD) hm_len rfl (GE.gv (g_v 1 rfl))) ga_nil) rfl rfl (mk__law_draw hr352) (hk := by omega)) ?_
      refine gs_re [.op q (ePool r352.2), .sh ((eT eD) d351), .any, .sh (PyData.int r352.1), .any, .any] rfl ?_
      obtain ⟨x356, hx356, g⟩ := obind h; clear h; have h := g; clear g
      obtain ⟨r357, hr357, g⟩ := obind h; clear h; have h := g; clear g
      obtain ⟨u358, hu358, g⟩ := obind h; clear h; have h := g; clear g
      obtain ⟨u359, hu359, g⟩ := obind h; clear h; have h := g; clear g
      obtain rfl := oret h
      exact gs_ret (t_catT (xs := ((cut d351 none (some r352.1)) ++ [r357.1])) (ys := (cut d351 (some (r352.1 + (1 : Int))) none)) hu359 (t_catT (xs := (cut d351 none (some r352.1))) (ys := [r357.1]) hu358 (t_slT (xs := d351) (g_v 1 rfl) GO.none (GO.some (g_v 3 rfl))) (g_tup (ga_cons (g_callP 0 c__law_bent hr tbn rfl rfl (ga_cons (t_ix (ε := eD) (xs := d351) hx356 rfl (GE.gv (g_v 1 rfl)) (g_v 3 rfl)) ga_nil) rfl rfl (mk__law_bent hr357) (hk := by omega)) ga_nil) : GE _ _ _ ((eT eD) [r357.1]) _)) (t_slT (xs := d351) (g_v 1 rfl) (GO.some (g_add (g_v 3 rfl) g_int)) GO.none)) (Exists.intro _ (And.intro rfl rfl))
    · refine gs_nil ?_
      show GS _ _ _ _
      refine gs_re [.op q (ePool b350.2), .sh (eD x_value), .any, .any, .any, .any] rfl ?_
      obtain ⟨r360, hr360, g⟩ := obind h; clear h; have h := g; clear g
      refine gs_set 2 nd (g_callP 0 c__law_draw hr tbn rfl rfl (ga_cons g_int ga_nil) rfl rfl (mk__law_draw hr360) (hk := by omega)) ?_
      refine gs_re [.op q (ePool r360.2), .sh (eD x_value), .sh (PyData.int r360.1), .any, .any, .any] rfl ?_
      refine gs_ifC h (gt_cmp op_eq (GE.gv (g_v 2 rfl)) (GE.gv g_int) v_eqI rfl) (fun h => ?_) (fun h => ?_)
      · obtain ⟨r361, hr361, g⟩ := obind h; clear h; have h := g; clear g
        obtain ⟨x362, hx362, g⟩ := obind h; clear h; have h := g; clear g
        obtain rfl := oret h
        exact gs_ret (t_ixE (ε := eD) (xs := [PyData.str ("x" : Str), PyData.bool true, (eT eD) [], PyData.int (0 : Int), PyData.int (-(1 : Int)), PyData.none, PyData.bool false, (eL eD) []]) hx362 rfl (g_tup (ga_cons g_str (ga_cons g_bl (ga_cons (g_tup ga_nil : GE _ _ _ ((eT eD) []) _) (ga_cons g_int (ga_cons (g_neg g_int) (ga_cons g_non (ga_cons g_bl (ga_cons (GL.ge (g_lst ga_nil : GL _ _ _ (List.map eD []) _)) ga_nil)))))))) : GE _ _ _ ((eT eD) [PyData.str ("x" : Str), PyData.bool true, (eT eD) [], PyData.int (0 : Int), PyData.int (-(1 : Int)), PyData.none, PyData.bool false, (eL eD) []]) _) (g_callP 0 c__law_draw hr tbn rfl rfl (ga_cons g_int ga_nil) rfl rfl (mk__law_draw hr361) (hk := by omega))) (Exists.intro _ (And.intro rfl rfl))
      · refine gs_nil ?_
        show GS _ _ _ _
        refine gs_re [.op q (ePool r360.2), .sh (eD x_value), .sh (PyData.int r360.1), .any, .any, .any] rfl ?_
        obtain ⟨r363, hr363, g⟩ := obind h; clear h; have h := g; clear g
        refine gs_ifC h (gt_val (g_call c__law_is_integer hr tbn (mk__law_is_integer hr363) (ga_cons (g_v 1 rfl) ga_nil) (hk := by omega))) (fun h => ?_) (fun h => ?_)
        · obtain ⟨d364, hd364, g⟩ := obind h; clear h; have h := g; clear g
          rw [toI_eq hd364]
          obtain ⟨r365, hr365, g⟩ := obind h; clear h; have h := g; clear g
          obtain ⟨x366, hx366, g⟩ := obind h; clear h; have h := g; clear g
          obtain rfl := oret h
          exact gs_ret (g_add (g_v 1 rfl) (t_ixE (ε := PyData.int) (xs := [(1 : Int), (-(1 : Int)), (2 : Int), (0 : Int)]) hx366 rfl (g_tup (ga_cons g_int (ga_cons (g_neg g_int) (ga_cons g_int (ga_cons g_int ga_nil)))) : GE _ _ _ ((eT PyData.int) [(1 : Int), (-(1 : Int)), (2 : Int), (0 : Int)]) _) (g_callP 0 c__law_draw hr tbn rfl rfl (ga_cons g_int ga_nil) rfl rfl (mk__law_draw hr365) (hk := by omega)))) (Exists.intro _ (And.intro rfl rfl))
        · refine gs_nil ?_
          show GS _ _ _ _
          refine gs_re [.op q (ePool r360.2), .sh (eD x_value), .sh (PyData.int r360.1), .any, .any, .any] rfl ?_
          refine gs_ifC h (gt_val (g_isi (T := "str") (by decide +kernel) (by decide +kernel) hm_isinstance hm_str (GE.gv (g_v 1 rfl)))) (fun h => ?_) (fun h => ?_)
          · obtain ⟨d367, hd367, g⟩ := obind h; clear h; have h := g; clear g
            rw [toS_eq hd367]
            obtain ⟨u368, hu368, g⟩ := obind h; clear h; have h := g; clear g
            obtain ⟨u369, hu369, g⟩ := obind h; clear h; have h := g; clear g
            obtain ⟨u370, hu370, g⟩ := obind h; clear h; have h := g; clear g
            obtain ⟨u371, hu371, g⟩ := obind h; clear h; have h := g; clear g
            obtain ⟨u372, hu372, g⟩ := obind h; clear h; have h := g; clear g
            obtain ⟨r373, hr373, g⟩ := obind h; clear h; have h := g; clear g
            obtain ⟨x374, hx374, g⟩ := obind h; clear h; have h := g; clear g
            obtain rfl := oret h
            exact gs_ret (t_ixE (ε := PyData.str) (xs := [(d367 ++ ("a" : Str)), (cutS d367 (some (1 : Int)) none), (d367 ++ ("A" : Str)), (d367 ++ (" " : Str)), (cutS d367 none (some (1 : Int)))]) hx374 rfl (g_tup (ga_cons (g_addS hu368 (g_v 1 rfl) g_str) (ga_cons (g_slS hu369 (g_v 1 rfl) (GO.some g_int) GO.none) (ga_cons (g_addS hu370 (g_v 1 rfl) g_str) (ga_cons (g_addS hu371 (g_v 1 rfl) g_str) (ga_cons (g_slS hu372 (g_v 1 rfl) GO.none (GO.some g_int)) ga_nil))))) : GE _ _ _ ((eT PyData.str) [(d367 ++ ("a" : Str)), (cutS d367 (some (1 : Int)) none), (d367 ++ ("A" : Str)), (d367 ++ (" " : Str)), (cutS d367 none (some (1 : Int)))]) _) (g_callP 0 c__law_draw hr tbn rfl rfl (ga_cons g_int ga_nil) rfl rfl (mk__law_draw hr373) (hk := by omega))) (Exists.intro _ (And.intro rfl rfl))
          · refine gs_nil ?_
            show GS _ _ _ _
            refine gs_re [.op q (ePool r360.2), .sh (eD x_value), .sh (PyData.int r360.1), .any, .any, .any] rfl ?_
            obtain ⟨b376, hb376, g⟩ := obind h; clear h; have h := g; clear g
            refine gs_ifC h (GW.gt (w_orO hb376 (gt_not (gt_val (g_isi (T := "tuple") (by decide +kernel) (by decide +kernel) hm_isinstance hm_tuple (GE.gv (g_v 1 rfl))))) (fun h => by obtain ⟨ds375, hds375, g⟩ := obind h; clear h; have h := g; clear g; obtain rfl := oret h; exact (gw_or1 (gt_cmp op_eq (GE.gv (g_len hm_len hds375 (GE.gv (g_v 1 rfl)))) (GE.gv g_int) v_eqI rfl))))) (fun h => ?_) (fun h => ?_)
            · obtain rfl := oret h
              exact gs_ret (t_if (ε := eD) (u := (eP eD PyData.int) (x_value, (0 : Int))) (v := (eT eD) []) (gt_cmpE op_lt (g_v 2 rfl) (GE.gv g_int) v_lt rfl) (g_tup (ga_cons (g_v 1 rfl) (ga_cons g_int ga_nil)) : GE _ _ _ ((eP eD PyData.int) (x_value, (0 : Int))) _) (g_tup ga_nil : GE _ _ _ ((eT eD) []) _)) (Exists.intro _ (And.intro rfl rfl))
            · obtain ⟨d377, hd377, g⟩ := obind h; clear h; have h := g; clear g
              rw [toTD_eq hd377]
              refine gs_nil ?_
              show GS _ _ _ _
              refine gs_re [.op q (ePool r360.2), .sh ((eT eD) d377), .sh (PyData.int r360.1), .any, .any, .any] rfl ?_
              obtain ⟨r378, hr378, g⟩ := obind h; clear h; have h := g; clear g
              refine gs_set 3 nd (g_callP 0 c__law_draw hr tbn rfl rfl (ga_cons (t_len (xs := d377) (ε := eD) hm_len rfl (GE.gv (g_v 1 rfl))) ga_nil) rfl rfl (mk__law_draw hr378) (hk := by omega)) ?_
              refine gs_re [.op q (ePool r378.2), .sh ((eT eD) d377), .sh (PyData.int r360.1), .sh (PyData.int r378.1), .any, .any] rfl ?_
              refine gs_ifC h (gt_cmpE op_lt (g_v 2 rfl) (GE.gv g_int) v_lt rfl) (fun h => ?_) (fun h => ?_)
              · obtain ⟨u379, hu379, g⟩ := obind h; clear h; have h := g; clear g
                obtain rfl := oret h
                exact gs_ret (t_catT (xs := (cut d377 none (some r378.1))) (ys := (cut d377 (some (r378.1 + (1 : Int))) none)) hu379 (t_slT (xs := d377) (g_v 1 rfl) GO.none (GO.some (g_v 3 rfl))) (t_slT (xs := d377) (g_v 1 rfl) (GO.some (g_add (g_v 3 rfl) g_int)) GO.none)) (Exists.intro _ (And.intro rfl rfl))
              · refine gs_nil ?_
                show GS _ _ _ _
                refine gs_re [.op q (ePool r378.2), .sh ((eT eD) d377), .sh (PyData.int r360.1), .sh (PyData.int r378.1), .any, .any] rfl ?_
                refine gs_ifC h (gt_cmpE op_lt (g_v 2 rfl) (GE.gv g_int) v_lt rfl) (fun h => ?_) (fun h => ?_)
                · obtain ⟨x382, hx382, g⟩ := obind h; clear h; have h := g; clear g
                  obtain ⟨u383, hu383, g⟩ := obind h; clear h; have h := g; clear g
                  obtain ⟨u384, hu384, g⟩ := obind h; clear h; have h := g; clear g
                  obtain rfl := oret h
                  exact gs_ret (t_catT (xs := ((cut d377 none (some r378.1)) ++ [x382])) (ys := (cut d377 (some r378.1) none)) hu384 (t_catT (xs := (cut d377 none (some r378.1))) (ys := [x382]) hu383 (t_slT (xs := d377) (g_v 1 rfl) GO.none (GO.some (g_v 3 rfl))) (g_tup (ga_cons (t_ix (ε := eD) (xs := d377) hx382 rfl (GE.gv (g_v 1 rfl)) (g_v 3 rfl)) ga_nil) : GE _ _ _ ((eT eD) [x382]) _)) (t_slT (xs := d377) (g_v 1 rfl) (GO.some (g_v 3 rfl)) GO.none)) (Exists.intro _ (And.intro rfl rfl))
                · refine gs_nil ?_
                  show GS _ _ _ _
                  refine gs_re [.op q (ePool r378.2), .sh ((eT eD) d377), .sh (PyData.int r360.1), .sh (PyData.int r378.1), .any, .any] rfl ?_
                  refine gs_ifC h (gt_cmp op_eq (GE.gv (g_v 2 rfl)) (GE.gv g_int) v_eqI rfl) (fun h => ?_) (fun h => ?_)
                  · obtain rfl := oret h
                    exact gs_ret (GL.ge (g_list (ds := d377.map eD) rfl hm_list (GE.gv (g_v 1 rfl)))) (Exists.intro _ (And.intro rfl rfl))
                  · refine gs_nil ?_
                    show GS _ _ _ _
                    refine gs_re [.op q (ePool r378.2), .sh ((eT eD) d377), .sh (PyData.int r360.1), .sh (PyData.int r378.1), .any, .any] rfl ?_
                    obtain ⟨r385, hr385, g⟩ := obind h; clear h; have h := g; clear g
                    refine gs_set 4 nd (g_callP 0 c__law_draw hr tbn rfl rfl (ga_cons (t_len (xs := d377) (ε := eD) hm_len rfl (GE.gv (g_v 1 rfl))) ga_nil) rfl rfl (mk__law_draw hr385) (hk := by omega)) ?_
                    refine gs_re [.op q (ePool r385.2), .sh ((eT eD) d377), .sh (PyData.int r360.1), .sh (PyData.int r378.1), .sh (PyData.int r385.1), .any] rfl ?_
                    refine gs_setL 5 nd (g_list (ds := d377.map eD) rfl hm_list (GE.gv (g_v 1 rfl))) ?_
                    refine gs_re [.op q (ePool r385.2), .sh ((eT eD) d377), .sh (PyData.int r360.1), .sh (PyData.int r378.1), .sh (PyData.int r385.1), .ol (d377.map eD)] rfl ?_
                    obtain ⟨x386, hx386, g⟩ := obind h; clear h; have h := g; clear g
                    obtain ⟨k387, hk387, g⟩ := obind h; clear h; have h := g; clear g
                    refine t_setIx 5 hk387 (t_ix (ε := eD) (xs := d377) hx386 rfl (GE.gv (g_v 1 rfl)) (g_v 4 rfl)) rfl (g_v 3 rfl) ?_
                    obtain ⟨x388, hx388, g⟩ := obind h; clear h; have h := g; clear g
                    obtain ⟨k389, hk389, g⟩ := obind h; clear h; have h := g; clear g
                    refine t_setIx 5 hk389 (t_ix (ε := eD) (xs := d377) hx388 rfl (GE.gv (g_v 1 rfl)) (g_v 3 rfl)) rfl (g_v 4 rfl) ?_
                    obtain rfl := oret h
                    exact gs_ret (g_tuple rfl hm_tuple (g_vo 5 rfl)) (Exists.intro _ (And.intro rfl rfl))
def m_is_named (x_value : D) (x_name : Str) (x_many : Int) : Option Bool := (oand (isA "tuple" x_value) ((sq x_value).bind fun ds397 => (oand (decide ((ds397.length : Int) = x_many)) ((sq x_value).bind fun ds398 => (idx ds398 (0 : Int)).bind fun x399 => (oand (isA "str" x399) ((sq x_value).bind fun ds400 => (idx ds400 (0 : Int)).bind fun x401 => (gdS x401 (PyData.str x_name)).bind fun u402 => some (PyData.eqv x401 (PyData.str x_name)))).bind fun b403 => some b403)).bind fun b404 => some b404)).bind fun b405 => some b405
def M_is_named (ds : List D) (d : D) : Prop := ∃ (x_value : D) (x_name : Str) (x_many : Int) (r : Bool), ds = [eD x_value, PyData.str x_name, PyData.int x_many] ∧ m_is_named x_value x_name x_many = some r ∧ d = PyData.bool r
theorem mk_is_named {x_value : D} {x_name : Str} {x_many : Int} {r : Bool} (h : m_is_named x_value x_name x_many = some r) : M_is_named [eD x_value, PyData.str x_name, PyData.int x_many] (PyData.bool r) := ⟨x_value, x_name, x_many, r, rfl, h, rfl⟩
abbrev s_is_named : Stmt := top 16
theorem sc_is_named : FnScope ["value", "name", "many"] ["value", "name", "many"] (defScope s_is_named) := ⟨rfl, rfl, rfl, by decide +kernel, rfl, by decide +kernel, by decide +kernel⟩
theorem o_is_named (F : FnP K "is_named" s_is_named f fd) (hm_isinstance : mg "isinstance" = none) (hm_len : mg "len" = none) (hm_str : mg "str" = none) (hm_tuple : mg "tuple" = none) : FnOkG [] P w K mg base CX0 1 f fd ["value", "name", "many"] (spF 3 M_is_named) := by
  refine ok_fn (k := 0) F sc_is_named rfl (by decide) fun cdv A outer s H E hr ht ds d hM hl => ?_
  obtain ⟨x_value, x_name, x_many, r, rfl, h, rfl⟩ := hM
  have nd := sc_is_named.nd
  unfold m_is_named at h
  obtain ⟨b405, hb405, g⟩ := obind h; clear h; have h := g; clear g
  obtain rfl := oret h
  exact gs_ret (b_andO hb405 (g_isi (T := "tuple") (by decide +kernel) (by decide +kernel) hm_isinstance hm_tuple (GE.gv (g_v 0 rfl))) (fun h => by obtain ⟨ds397, hds397, g⟩ := obind h; clear h; have h := g; clear g; obtain ⟨b404, hb404, g⟩ := obind h; clear h; have h := g; clear g; obtain rfl := oret h; exact (b_andO hb404 (g_cmp op_eq (GE.gv (g_len hm_len hds397 (GE.gv (g_v 0 rfl)))) (GE.gv (g_v 2 rfl)) v_eqI rfl) (fun h => by obtain ⟨ds398, hds398, g⟩ := obind h; clear h; have h := g; clear g; obtain ⟨x399, hx399, g⟩ := obind h; clear h; have h := g; clear g; obtain ⟨b403, hb403, g⟩ := obind h; clear h; have h := g; clear g; obtain rfl := oret h; exact (b_andO hb403 (g_isi (T := "str") (by decide +kernel) (by decide +kernel) hm_isinstance hm_str (GE.gv (g_ix hds398 hx399 (GE.gv (g_v 0 rfl)) g_int))) (fun h => by obtain ⟨ds400, hds400, g⟩ := obind h; clear h; have h := g; clear g; obtain ⟨x401, hx401, g⟩ := obind h; clear h; have h := g; clear g; obtain ⟨u402, hu402, g⟩ := obind h; clear h; have h := g; clear g; obtain rfl := oret h; exact (g_one (g_cmp (op_eqD (un64 hr)) (GE.gv (g_ix hds400 hx401 (GE.gv (g_v 0 rfl)) g_int)) (GE.gv (g_v 1 rfl)) (v_eqG hu402) rfl)))))))) (Exists.intro _ rfl)
def m_is_whole (x_value : D) : Option Bool := some ((isA "int" x_value) && (!(isA "bool" x_value)))
def M_is_whole (ds : List D) (d : D) : Prop := ∃ (x_value : D) (r : Bool), ds = [eD x_value] ∧ m_is_whole x_value = some r ∧ d = PyData.bool r
theorem mk_is_whole {x_value : D} {r : Bool} (h : m_is_whole x_value = some r) : M_is_whole [eD x_value] (PyData.bool r) := ⟨x_value, r, rfl, h, rfl⟩
abbrev s_is_whole : Stmt := top 5
theorem sc_is_whole : FnScope ["value"] ["value"] (defScope s_is_whole) := ⟨rfl, rfl, rfl, by decide +kernel, rfl, by decide +kernel, by decide +kernel⟩
theorem o_is_whole (F : FnP K "is_whole" s_is_whole f fd) (hm_bool : mg "bool" = none) (hm_int : mg "int" = none) (hm_isinstance : mg "isinstance" = none) : FnOkG [] P w K mg base CX0 1 f fd ["value"] (spF 1 M_is_whole) := by
  refine ok_fn (k := 0) F sc_is_whole rfl (by decide) fun cdv A outer s H E hr ht ds d hM hl => ?_
  obtain ⟨x_value, r, rfl, h, rfl⟩ := hM
  have nd := sc_is_whole.nd
  unfold m_is_whole at h
  obtain rfl := oret h
  exact gs_ret (b_and (g_isi (T := "int") (by decide +kernel) (by decide +kernel) hm_isinstance hm_int (GE.gv (g_v 0 rfl))) (g_one (g_not (g_isi (T := "bool") (by decide +kernel) (by decide +kernel) hm_isinstance hm_bool (GE.gv (g_v 0 rfl)))))) (Exists.intro _ rfl)
def m_is_element (x_wheels : (List Int)) (x_value : D) : Option Bool := (oor (!(isA "tuple" x_value)) ((sq x_value).bind fun ds428 => some (!decide ((ds428.length : Int) = (x_wheels.length : Int))))).bind fun b429 => bif b429 then some false else (sq x_value).bind fun ds430 => (szL (ds430.zip x_wheels)).bind fun u431 => (lcF (fun (x432 : (D × Int)) => (m_is_whole x432.1).bind fun r433 => (oand r433 ((toI x432.1).bind fun i434 => some (decide ((0 : Int) ≤ i434) && decide (i434 < x432.2)))).bind fun b435 => some (some b435)) (ds430.zip x_wheels)).bind fun ys436 => some (ys436.all id)
def M_is_element (ds : List D) (d : D) : Prop := ∃ (x_wheels : (List Int)) (x_value : D) (r : Bool), ds = [(eT PyData.int) x_wheels, eD x_value] ∧ m_is_element x_wheels x_value = some r ∧ d = PyData.bool r
theorem mk_is_element {x_wheels : (List Int)} {x_value : D} {r : Bool} (h : m_is_element x_wheels x_value = some r) : M_is_element [(eT PyData.int) x_wheels, eD x_value] (PyData.bool r) := ⟨x_wheels, x_value, r, rfl, h, rfl⟩
abbrev s_is_element : Stmt := top 9
theorem sc_is_element : FnScope ["wheels", "value", "x", "number"] ["wheels", "value"] (defScope s_is_element) := ⟨rfl, rfl, rfl, by decide +kernel, rfl, by decide +kernel, by decide +kernel⟩
theorem o_is_element (F : FnP K "is_element" s_is_element f fd) (c_is_whole : CalG [] P w K mg base 1 "is_whole" (spF 1 M_is_whole) []) (hm_all : mg "all" = none) (hm_isinstance : mg "isinstance" = none) (hm_len : mg "len" = none) (hm_tuple : mg "tuple" = none) (hm_zip : mg "zip" = none) : FnOkG [] P w K mg base CX0 2 f fd ["wheels", "value"] (spF 2 M_is_element) := by
  refine ok_fn (k := 1) F sc_is_element rfl (by decide) fun cdv A outer s H E hr ht ds d hM hl => ?_
  obtain ⟨x_wheels, x_value, r, rfl, h, rfl⟩ := hM
  have nd := sc_is_element.nd
  unfold m_is_element at h
  obtain ⟨b429, hb429, g⟩ := obind h; clear h; have h := g; clear g
  refine gs_ifC h (GW.gt (w_orO hb429 (gt_not (gt_val (g_isi (T := "tuple") (by decide +kernel) (by decide +kernel) hm_isinstance hm_tuple (GE.gv (g_v 1 rfl))))) (fun h => by obtain ⟨ds428, hds428, g⟩ := obind h; clear h; have h := g; clear g; obtain rfl := oret h; exact (gw_or1 (gt_cmp op_ne (GE.gv (g_len hm_len hds428 (GE.gv (g_v 1 rfl)))) (GE.gv (t_len (xs := x_wheels) (ε := PyData.int) hm_len rfl (GE.gv (g_v 0 rfl)))) v_neI rfl))))) (fun h => ?_) (fun h => ?_)
  · obtain rfl := oret h
    exact gs_ret g_bl (Exists.intro _ rfl)
  · refine gs_nil ?_
    show GS _ _ _ _
    obtain ⟨ds430, hds430, g⟩ := obind h; clear h; have h := g; clear g
    obtain ⟨u431, hu431, g⟩ := obind h; clear h; have h := g; clear g
    obtain ⟨ys436, hys436, g⟩ := obind h; clear h; have h := g; clear g
    obtain rfl := oret h
    exact gs_ret (g_all rfl hm_all (GL.v (g_lc (ε := (eP eD PyData.int)) (ε' := PyData.bool) hys436 (szL_le hu431) rfl nd (own := [("x", 2), ("number", 3)]) (blkOk_by (by first | rfl | kernel_rfl)) (t_zip2 (xs := ds430) (ys := x_wheels) (ε := eD) (η := PyData.int) hm_zip (g_v 1 rfl) (g_v 0 rfl) (by rw [eD_map]; exact hds430) rfl) (NoOwn.by rfl) (fun x432 hx o h => by obtain ⟨r433, hr433, g⟩ := obind h; clear h; have h := g; clear g; obtain ⟨b435, hb435, g⟩ := obind h; clear h; have h := g; clear g; obtain rfl := oret h; exact turn_val (fun B => (gg_tup rfl (ggs_cons (gg_name 2 nd) (ggs_cons (gg_name 3 nd) ggs_nil)))) (fun B => (b_andO hb435 (g_call c_is_whole hr tbn (mk_is_whole hr433) (ga_cons (g_v 2 rfl) ga_nil)) (fun h => by obtain ⟨i434, hi434, g⟩ := obind h; clear h; have h := g; clear g; obtain rfl := oret h; exact (g_one (t_chain op_le op_lt g_int (GE.toI hi434 (g_v 2 rfl)) v_le (g_v 3 rfl) v_lt))))))))) (Exists.intro _ rfl)
def m_check_split (x_wheels : (List Int)) (x_group : (List (List Int))) (x_value : D) : Option Bool := (m_need_within x_wheels x_group).bind fun r396 => (m_is_named x_value ("beside" : Str) (2 : Int)).bind fun r406 => bif r406 then (sq x_value).bind fun ds407 => (idx ds407 (1 : Int)).bind fun x408 => (m_is_within x_wheels x408).bind fun r409 => (oor (!r409) ((sq x_value).bind fun ds410 => (idx ds410 (1 : Int)).bind fun x411 => (toTW x411).bind fun w412 => (szL w412).bind fun u413 => some (!decide ((((w412.filter (fun (x414 : (List Int)) => (decide (x414 ∈ x_group)))).map (fun (x414 : (List Int)) => x414)).length : Int) = (1 : Int))))).bind fun b415 => bif b415 then some false else (sq x_value).bind fun ds416 => (idx ds416 (1 : Int)).bind fun x417 => (sq x417).bind fun ds418 => (pmul (ds418.length : Int) (x_group.length : Int)).bind fun n419 => (m_elements_of x_wheels).bind fun r420 => some (decide (n419 = (r420.length : Int))) else (m_is_named x_value ("stuck" : Str) (3 : Int)).bind fun r421 => (oor (!r421) ((sq x_value).bind fun ds422 => (idx ds422 (1 : Int)).bind fun x423 => (m_is_whole x423).bind fun r424 => (oor (!r424) ((sq x_value).bind fun ds425 => (idx ds425 (1 : Int)).bind fun x426 => (toI x426).bind fun i427 => (oor (decide (i427 < (1 : Int))) ((sq x_value).bind fun ds437 => (idx ds437 (2 : Int)).bind fun x438 => (m_is_element x_wheels x438).bind fun r439 => some (!r439))).bind fun b440 => some b440)).bind fun b441 => some b441)).bind fun b442 => bif b442 then some false else (toTD x_value).bind fun ds443 => (to2 (cut ds443 (some (1 : Int)) none)).bind fun p444 => (oor (!decide (p444.2 ∈ x_group)) ((szL x_group).bind fun u445 => (lcF (fun (x446 : (List Int)) => (m_times_element x_wheels p444.1 x446).bind fun r447 => some (some r447)) x_group).bind fun ys448 => some (decide (p444.2 ∈ ys448)))).bind fun b449 => bif b449 then some false else (m_elements_of x_wheels).bind fun r450 => (szL r450).bind fun u451 => (lcF (fun (x452 : (List Int)) => (m_times_element x_wheels p444.1 x452).bind fun r453 => some (some r453)) r450).bind fun ys454 => some (decide (p444.2 ∈ ys454))
def M_check_split (ds : List D) (d : D) : Prop := ∃ (x_wheels : (List Int)) (x_group : (List (List Int))) (x_value : D) (r : Bool), ds = [(eT PyData.int) x_wheels, (eT (eT PyData.int)) x_group, eD x_value] ∧ m_check_split x_wheels x_group x_value = some r ∧ d = PyData.bool r
theorem mk_check_split {x_wheels : (List Int)} {x_group : (List (List Int))} {x_value : D} {r : Bool} (h : m_check_split x_wheels x_group x_value = some r) : M_check_split [(eT PyData.int) x_wheels, (eT (eT PyData.int)) x_group, eD x_value] (PyData.bool r) := ⟨x_wheels, x_group, x_value, r, rfl, h, rfl⟩
abbrev s_check_split : Stmt := top 26
theorem sc_check_split : FnScope ["wheels", "group", "value", "m", "one", "x"] ["wheels", "group", "value"] (defScope s_check_split) := ⟨rfl, rfl, rfl, by decide +kernel, rfl, by decide +kernel, by decide +kernel⟩
theorem o_check_split (F : FnP K "check_split" s_check_split f fd) (c_need_within : CalG [] P w K mg base 4 "need_within" (spF 2 M_need_within) []) (c_is_named : CalG [] P w K mg base 1 "is_named" (spF 3 M_is_named) []) (c_is_within : CalG [] P w K mg base 3 "is_within" (spF 2 M_is_within) []) (c_elements_of : CalG [] P w K mg base 2 "elements_of" (spF 1 M_elements_of) []) (c_is_whole : CalG [] P w K mg base 1 "is_whole" (spF 1 M_is_whole) []) (c_is_element : CalG [] P w K mg base 2 "is_element" (spF 2 M_is_element) []) (c_times_element : CalG [] P w K mg base 1 "times_element" (spF 3 M_times_element) []) (hm_len : mg "len" = none) : FnOkG [] P w K mg base CX0 5 f fd ["wheels", "group", "value"] (spF 3 M_check_split) := by
  refine ok_fn (k := 4) F sc_check_split rfl (by decide) fun cdv A outer s H E hr ht ds d hM hl => ?_
  obtain ⟨x_wheels, x_group, x_value, r, rfl, h, rfl⟩ := hM
  have nd := sc_check_split.nd
  unfold m_check_split at h
  obtain ⟨r396, hr396, g⟩ := obind h; clear h; have h := g; clear g
  refine gs_expr (g_call c_need_within hr tbn (mk_need_within hr396) (ga_cons (g_v 0 rfl) (ga_cons (g_v 1 rfl) ga_nil))) ?_
  obtain ⟨r406, hr406, g⟩ := obind h; clear h; have h := g; clear g
  refine gs_ifC h (gt_val (g_call c_is_named hr tbn (mk_is_named hr406) (ga_cons (g_v 2 rfl) (ga_cons g_str (ga_cons g_int ga_nil))))) (fun h => ?_) (fun h => ?_)
  · obtain ⟨ds407, hds407, g⟩ := obind h; clear h; have h := g; clear g
    obtain ⟨x408, hx408, g⟩ := obind h; clear h; have h := g; clear g
    obtain ⟨r409, hr409, g⟩ := obind h; clear h; have h := g; clear g
    obtain ⟨b415, hb415, g⟩ := obind h; clear h; have h := g; clear g
    refine gs_ifC h (GW.gt (w_orO hb415 (gt_not (gt_val (g_call c_is_within hr tbn (mk_is_within hr409) (ga_cons (g_v 0 rfl) (ga_cons (g_ix hds407 hx408 (GE.gv (g_v 2 rfl)) g_int) ga_nil))))) (fun h => by obtain ⟨ds410, hds410, g⟩ := obind h; clear h; have h := g; clear g; obtain ⟨x411, hx411, g⟩ := obind h; clear h; have h := g; clear g; obtain ⟨w412, hw412, g⟩ := obind h; clear h; have h := g; clear g; obtain ⟨u413, hu413, g⟩ := obind h; clear h; have h := g; clear g; obtain rfl := oret h; exact (gw_or1 (gt_cmp op_ne (GE.gv (t_len (xs := ((w412.filter (fun (x414 : (List Int)) => (decide (x414 ∈ x_group)))).map (fun (x414 : (List Int)) => x414))) (ε := (eT PyData.int)) hm_len rfl (GL.v (g_lc (ε := (eT PyData.int)) (ε' := (eT PyData.int)) (lcF_filter (f := (fun (x414 : (List Int)) => x414)) (p := (fun (x414 : (List Int)) => (decide (x414 ∈ x_group))))) (szL_le hu413) rfl nd (own := [("x", 5)]) (blkOk_by (by first | rfl | kernel_rfl)) (gi_tup (GE.toTW hw412 (g_ix hds410 hx411 (GE.gv (g_v 2 rfl)) g_int))) (NoOwn.by rfl) (fun x414 hx o h => by have h : (bif (decide (x414 ∈ x_group)) then some (some x414) else some none) = some o := by { rw [← oret h]; cases (decide (x414 ∈ x_group)) <;> rfl }; exact turn_if h (fun B => (gg_name 5 nd)) (fun B => (gt_cmpE (op_inS hr) (g_v 5 rfl) (GE.gv (g_v 1 rfl)) (v_inT (Eqv.T Eqv.int) (Sh.T Sh.int) (xs := x_group) rfl (Sh.shaped (Sh.T (Sh.T Sh.int)) (by decide) x_group)) rfl)) (fun h => by exact ⟨_, _, (oret h).symm, (fun B => (g_v 5 rfl)), rfl⟩)))))) (GE.gv g_int) v_neI rfl))))) (fun h => ?_) (fun h => ?_)
    · obtain rfl := oret h
      exact gs_ret g_bl (Exists.intro _ rfl)
    · refine gs_nil ?_
      show GS _ _ _ _
      refine gs_re [.sh ((eT PyData.int) x_wheels), .sh ((eT (eT PyData.int)) x_group), .sh (eD x_value), .any, .any, .any] rfl ?_
      obtain ⟨ds416, hds416, g⟩ := obind h; clear h; have h := g; clear g
      obtain ⟨x417, hx417, g⟩ := obind h; clear h; have h := g; clear g
      obtain ⟨ds418, hds418, g⟩ := obind h; clear h; have h := g; clear g
      obtain ⟨n419, hn419, g⟩ := obind h; clear h; have h := g; clear g
      obtain ⟨r420, hr420, g⟩ := obind h; clear h; have h := g; clear g
      obtain rfl := oret h
      exact gs_ret (g_cmp op_eq (GE.gv (g_mul hn419 (g_len hm_len hds418 (GE.gv (g_ix hds416 hx417 (GE.gv (g_v 2 rfl)) g_int))) (t_len (xs := x_group) (ε := (eT PyData.int)) hm_len rfl (GE.gv (g_v 1 rfl))))) (GE.gv (t_len (xs := r420) (ε := (eT PyData.int)) hm_len rfl (GE.gv (g_call c_elements_of hr tbn (mk_elements_of hr420) (ga_cons (g_v 0 rfl) ga_nil))))) v_eqI rfl) (Exists.intro _ rfl)
  · refine gs_nil ?_
    show GS _ _ _ _
    refine gs_re [.sh ((eT PyData.int) x_wheels), .sh ((eT (eT PyData.int)) x_group), .sh (eD x_value), .any, .any, .any] rfl ?_
    obtain ⟨r421, hr421, g⟩ := obind h; clear h; have h := g; clear g
    obtain ⟨b442, hb442, g⟩ := obind h; clear h; have h := g; clear g
    refine gs_ifC h (GW.gt (w_orO hb442 (gt_not (gt_val (g_call c_is_named hr tbn (mk_is_named hr421) (ga_cons (g_v 2 rfl) (ga_cons g_str (ga_cons g_int ga_nil)))))) (fun h => by obtain ⟨ds422, hds422, g⟩ := obind h; clear h; have h := g; clear g; obtain ⟨x423, hx423, g⟩ := obind h; clear h; have h := g; clear g; obtain ⟨r424, hr424, g⟩ := obind h; clear h; have h := g; clear g; obtain ⟨b441, hb441, g⟩ := obind h; clear h; have h := g; clear g; obtain rfl := oret h; exact (w_orO hb441 (gt_not (gt_val (g_call c_is_whole hr tbn (mk_is_whole hr424) (ga_cons (g_ix hds422 hx423 (GE.gv (g_v 2 rfl)) g_int) ga_nil)))) (fun h => by obtain ⟨ds425, hds425, g⟩ := obind h; clear h; have h := g; clear g; obtain ⟨x426, hx426, g⟩ := obind h; clear h; have h := g; clear g; obtain ⟨i427, hi427, g⟩ := obind h; clear h; have h := g; clear g; obtain ⟨b440, hb440, g⟩ := obind h; clear h; have h := g; clear g; obtain rfl := oret h; exact (w_orO hb440 (gt_cmpE op_lt (GE.toI hi427 (g_ix hds425 hx426 (GE.gv (g_v 2 rfl)) g_int)) (GE.gv g_int) v_lt rfl) (fun h => by obtain ⟨ds437, hds437, g⟩ := obind h; clear h; have h := g; clear g; obtain ⟨x438, hx438, g⟩ := obind h; clear h; have h := g; clear g; obtain ⟨r439, hr439, g⟩ := obind h; clear h; have h := g; clear g; obtain rfl := oret h; exact (gw_or1 (gt_not (gt_val (g_call c_is_element hr tbn (mk_is_element hr439) (ga_cons (g_v 0 rfl) (ga_cons (g_ix hds437 hx438 (GE.gv (g_v 2 rfl)) g_int) ga_nil))))))))))))) (fun h => ?_) (fun h => ?_)
    · obtain rfl := oret h
      exact gs_ret g_bl (Exists.intro _ rfl)
    · refine gs_nil ?_
      show GS _ _ _ _
      refine gs_re [.sh ((eT PyData.int) x_wheels), .sh ((eT (eT PyData.int)) x_group), .sh (eD x_value), .any, .any, .any] rfl ?_
      obtain ⟨ds443, hds443, g⟩ := obind h; clear h; have h := g; clear g
      obtain ⟨p444, hp444, g⟩ := obind h; clear h; have h := g; clear g
      refine gs_asg (GE.to2 hp444 (t_slT (xs := ds443) (ε := eD) (GE.toTD hds443 (g_v 2 rfl)) (GO.some g_int) GO.none)) (gg_tup rfl (ggs_cons (gg_name 3 nd) (ggs_cons (gg_name 4 nd) ggs_nil))) ?_
      refine gs_re [.sh ((eT PyData.int) x_wheels), .sh ((eT (eT PyData.int)) x_group), .sh (eD x_value), .sh (PyData.int p444.1), .sh ((eT PyData.int) p444.2), .any] rfl ?_
      obtain ⟨b449, hb449, g⟩ := obind h; clear h; have h := g; clear g
      refine gs_ifC h (GW.gt (w_orO hb449 (gt_cmpE (op_notInS hr) (g_v 4 rfl) (GE.gv (g_v 1 rfl)) (v_notInT (Eqv.T Eqv.int) (Sh.T Sh.int) (xs := x_group) rfl (Sh.shaped (Sh.T (Sh.T Sh.int)) (by decide) x_group)) rfl) (fun h => by obtain ⟨u445, hu445, g⟩ := obind h; clear h; have h := g; clear g; obtain ⟨ys448, hys448, g⟩ := obind h; clear h; have h := g; clear g; obtain rfl := oret h; exact (gw_or1 (gt_cmpE (op_inS hr) (g_v 4 rfl) (GL.v (g_lc (ε := (eT PyData.int)) (ε' := (eT PyData.int)) hys448 (szL_le hu445) rfl nd (own := [("x", 5)]) (blkOk_by (by first | rfl | kernel_rfl)) (gi_tup (g_v 1 rfl)) (NoOwn.by rfl) (fun x446 hx o h => by obtain ⟨r447, hr447, g⟩ := obind h; clear h; have h := g; clear g; obtain rfl := oret h; exact turn_val (fun B => (gg_name 5 nd)) (fun B => (g_call c_times_element hr tbn (mk_times_element hr447) (ga_cons (g_v 0 rfl) (ga_cons (g_v 3 rfl) (ga_cons (g_v 5 rfl) ga_nil)))))))) (v_inT (Eqv.T Eqv.int) (Sh.T Sh.int) (xs := ys448) rfl (Sh.shaped (Sh.L (Sh.T Sh.int)) (by decide) ys448)) rfl))))) (fun h => ?_) (fun h => ?_)
      · obtain rfl := oret h
        exact gs_ret g_bl (Exists.intro _ rfl)
      · refine gs_nil ?_
        show GS _ _ _ _
        refine gs_re [.sh ((eT PyData.int) x_wheels), .sh ((eT (eT PyData.int)) x_group), .sh (eD x_value), .sh (PyData.int p444.1), .sh ((eT PyData.int) p444.2), .any] rfl ?_
        obtain ⟨r450, hr450, g⟩ := obind h; clear h; have h := g; clear g
        obtain ⟨u451, hu451, g⟩ := obind h; clear h; have h := g; clear g
        obtain ⟨ys454, hys454, g⟩ := obind h; clear h; have h := g; clear g
        obtain rfl := oret h
        exact gs_ret (g_cmpE (op_inS hr) (g_v 4 rfl) (GL.v (g_lc (ε := (eT PyData.int)) (ε' := (eT PyData.int)) hys454 (szL_le hu451) rfl nd (own := [("x", 5)]) (blkOk_by (by first | rfl | kernel_rfl)) (gi_list (g_call c_elements_of hr tbn (mk_elements_of hr450) (ga_cons (g_v 0 rfl) ga_nil))) (NoOwn.by rfl) (fun x452 hx o h => by obtain ⟨r453, hr453, g⟩ := obind h; clear h; have h := g; clear g; obtain rfl := oret h; exact turn_val (fun B => (gg_name 5 nd)) (fun B => (g_call c_times_element hr tbn (mk_times_element hr453) (ga_cons (g_v 0 rfl) (ga_cons (g_v 3 rfl) (ga_cons (g_v 5 rfl) ga_nil)))))))) (v_inT (Eqv.T Eqv.int) (Sh.T Sh.int) (xs := ys454) rfl (Sh.shaped (Sh.L (Sh.T Sh.int)) (by decide) ys454)) rfl) (Exists.intro _ rfl)
def m_parts_of (x_wheels : (List Int)) (x_one : (List (List Int))) (x_two : (List (List Int))) (x_element : (List Int)) : Option ((List Int) × (List Int)) := (forR (ρ := ((List Int) × (List Int))) (fun (x420 : (List Int)) (s419 : Unit) => (forR (ρ := ((List Int) × (List Int))) (fun (x422 : (List Int)) (s421 : Unit) => (m_plus x_wheels x420 x422).bind fun r423 => bif (decide (r423 = x_element)) then some (.inr (x420, x422)) else some (.inl ())) x_two ()).bind fun z424 => onR z424 (fun (s425 : Unit) => some (.inl ())) (fun r0 => some (.inr r0))) x_one ()).bind fun z426 => onR z426 (fun (s427 : Unit) => (m_nought x_wheels).bind fun r428 => (m_nought x_wheels).bind fun r429 => some (r428, r429)) (fun r0 => some r0)
def M_parts_of (ds : List D) (d : D) : Prop := ∃ (x_wheels : (List Int)) (x_one : (List (List Int))) (x_two : (List (List Int))) (x_element : (List Int)) (r : ((List Int) × (List Int))), ds = [(eT PyData.int) x_wheels, (eT (eT PyData.int)) x_one, (eT (eT PyData.int)) x_two, (eT PyData.int) x_element] ∧ m_parts_of x_wheels x_one x_two x_element = some r ∧ d = (eP (eT PyData.int) (eT PyData.int)) r
theorem mk_parts_of {x_wheels : (List Int)} {x_one : (List (List Int))} {x_two : (List (List Int))} {x_element : (List Int)} {r : ((List Int) × (List Int))} (h : m_parts_of x_wheels x_one x_two x_element = some r) : M_parts_of [(eT PyData.int) x_wheels, (eT (eT PyData.int)) x_one, (eT (eT PyData.int)) x_two, (eT PyData.int) x_element] ((eP (eT PyData.int) (eT PyData.int)) r) := ⟨x_wheels, x_one, x_two, x_element, r, rfl, h, rfl⟩
abbrev s_parts_of : Stmt := top 28
theorem sc_parts_of : FnScope ["wheels", "one", "two", "element", "x", "y"] ["wheels", "one", "two", "element"] (defScope s_parts_of) := ⟨rfl, rfl, rfl, by decide +kernel, rfl, by decide +kernel, by decide +kernel⟩
theorem o_parts_of (F : FnP K "parts_of" s_parts_of f fd) (c_plus : CalG [] P w K mg base 1 "plus" (spF 3 M_plus) []) (c_nought : CalG [] P w K mg base 1 "nought" (spF 1 M_nought) []) : FnOkG [] P w K mg base CX0 2 f fd ["wheels", "one", "two", "element"] (spF 4 M_parts_of) := by
  refine ok_fn (k := 1) F sc_parts_of rfl (by decide) fun cdv A outer s H E hr ht ds d hM hl => ?_
  obtain ⟨x_wheels, x_one, x_two, x_element, r, rfl, h, rfl⟩ := hM
  have nd := sc_parts_of.nd
  unfold m_parts_of at h
  obtain ⟨z426, hz426, g⟩ := obind h; clear h; have h := g; clear g
  refine gs_forR (S := Unit) (ρ := ((List Int) × (List Int))) (Pr := fun r o => ∃ C', o = .rt ((eP (eT PyData.int) (eT PyData.int)) r) C') (ε := (eT PyData.int)) (Cs := fun s => [.sh ((eT PyData.int) x_wheels), .sh ((eT (eT PyData.int)) x_one), .sh ((eT (eT PyData.int)) x_two), .sh ((eT PyData.int) x_element), .any, .any]) (Cx := fun x s => [.sh ((eT PyData.int) x_wheels), .sh ((eT (eT PyData.int)) x_one), .sh ((eT (eT PyData.int)) x_two), .sh ((eT PyData.int) x_element), .sh ((eT PyData.int) x), .any]) (is := [4]) hz426 (gi_tup (g_v 1 rfl)) (.same (.same (.same (.same (.any (.any .nil)))))) PassesOwn.never rfl (fun x s => (gg_name 4 nd)) (fun x420 hx s419 s' h => ?_) (fun x420 hx s419 r0 h => ?_) (fun s427 hs1 => ?_) (fun r0 hr0 o ho => ?_)
  · obtain ⟨z424, hz424, g⟩ := obind h; clear h; have h := g; clear g
    refine gs_forR (S := Unit) (ρ := ((List Int) × (List Int))) (Pr := fun r o => ∃ C', o = .rt ((eP (eT PyData.int) (eT PyData.int)) r) C') (ε := (eT PyData.int)) (Cs := fun s => [.sh ((eT PyData.int) x_wheels), .sh ((eT (eT PyData.int)) x_one), .sh ((eT (eT PyData.int)) x_two), .sh ((eT PyData.int) x_element), .sh ((eT PyData.int) x420), .any]) (Cx := fun x s => [.sh ((eT PyData.int) x_wheels), .sh ((eT (eT PyData.int)) x_one), .sh ((eT (eT PyData.int)) x_two), .sh ((eT PyData.int) x_element), .sh ((eT PyData.int) x420), .sh ((eT PyData.int) x)]) (is := [5]) hz424 (gi_tup (g_v 2 rfl)) (.same (.same (.same (.same (.same (.any .nil)))))) PassesOwn.never rfl (fun x s => (gg_name 5 nd)) (fun x422 hx s421 s' h => ?_) (fun x422 hx s421 r0 h => ?_) (fun s425 hs1 => ?_) (fun r0 hr0 o ho => ?_)
    · obtain ⟨r423, hr423, g⟩ := obind h; clear h; have h := g; clear g
      refine gs_ifC h (gt_cmp (op_eqD (un64 hr)) (GE.gv (g_call c_plus hr tbn (mk_plus hr423) (ga_cons (g_v 0 rfl) (ga_cons (g_v 4 rfl) (ga_cons (g_v 5 rfl) ga_nil))))) (GE.gv (g_v 3 rfl)) (v_eqT (ε := (eT PyData.int)) (u := r423) (v := x_element) (Eqv.T Eqv.int) (Sh.T Sh.int)) rfl) (fun h => ?_) (fun h => ?_)
      · cases oret h
      · refine gs_nil ?_
        show GS _ _ _ _
        refine gs_re [.sh ((eT PyData.int) x_wheels), .sh ((eT (eT PyData.int)) x_one), .sh ((eT (eT PyData.int)) x_two), .sh ((eT PyData.int) x_element), .sh ((eT PyData.int) x420), .sh ((eT PyData.int) x422)] rfl ?_
        obtain rfl := Sum.inl.inj (oret h)
        exact gs_end _ (.same (.same (.same (.same (.same (.any .nil)))))) rfl
    · obtain ⟨r423, hr423, g⟩ := obind h; clear h; have h := g; clear g
      refine gs_ifC h (gt_cmp (op_eqD (un64 hr)) (GE.gv (g_call c_plus hr tbn (mk_plus hr423) (ga_cons (g_v 0 rfl) (ga_cons (g_v 4 rfl) (ga_cons (g_v 5 rfl) ga_nil))))) (GE.gv (g_v 3 rfl)) (v_eqT (ε := (eT PyData.int)) (u := r423) (v := x_element) (Eqv.T Eqv.int) (Sh.T Sh.int)) rfl) (fun h => ?_) (fun h => ?_)
      · obtain rfl := Sum.inr.inj (oret h)
        exact gs_ret (g_tup (ga_cons (g_v 4 rfl) (ga_cons (g_v 5 rfl) ga_nil)) : GE _ _ _ ((eP (eT PyData.int) (eT PyData.int)) (x420, x422)) _) (Exists.intro _ rfl)
      · refine gs_nil ?_
        show GS _ _ _ _
        refine gs_re [.sh ((eT PyData.int) x_wheels), .sh ((eT (eT PyData.int)) x_one), .sh ((eT (eT PyData.int)) x_two), .sh ((eT PyData.int) x_element), .sh ((eT PyData.int) x420), .sh ((eT PyData.int) x422)] rfl ?_
        cases oret h
    · subst hs1
      replace h := onR_inl h
      obtain rfl := Sum.inl.inj (oret h)
      exact gs_end _ (.same (.same (.same (.same (.any (.any .nil)))))) rfl
    · subst hr0
      cases oret (show some _ = some _ from h)
  · obtain ⟨z424, hz424, g⟩ := obind h; clear h; have h := g; clear g
    refine gs_forR (S := Unit) (ρ := ((List Int) × (List Int))) (Pr := fun r o => ∃ C', o = .rt ((eP (eT PyData.int) (eT PyData.int)) r) C') (ε := (eT PyData.int)) (Cs := fun s => [.sh ((eT PyData.int) x_wheels), .sh ((eT (eT PyData.int)) x_one), .sh ((eT (eT PyData.int)) x_two), .sh ((eT PyData.int) x_element), .sh ((eT PyData.int) x420), .any]) (Cx := fun x s => [.sh ((eT PyData.int) x_wheels), .sh ((eT (eT PyData.int)) x_one), .sh ((eT (eT PyData.int)) x_two), .sh ((eT PyData.int) x_element), .sh ((eT PyData.int) x420), .sh ((eT PyData.int) x)]) (is := [5]) hz424 (gi_tup (g_v 2 rfl)) (.same (.same (.same (.same (.same (.any .nil)))))) PassesOwn.never rfl (fun x s => (gg_name 5 nd)) (fun x422 hx s421 s' h => ?_) (fun x422 hx s421 r0 h => ?_) (fun s425 hs1 => ?_) (fun r0 hr0 o ho => ?_)
    · obtain ⟨r423, hr423, g⟩ := obind h; clear h; have h := g; clear g
      refine gs_ifC h (gt_cmp (op_eqD (un64 hr)) (GE.gv (g_call c_plus hr tbn (mk_plus hr423) (ga_cons (g_v 0 rfl) (ga_cons (g_v 4 rfl) (ga_cons (g_v 5 rfl) ga_nil))))) (GE.gv (g_v 3 rfl)) (v_eqT (ε := (eT PyData.int)) (u := r423) (v := x_element) (Eqv.T Eqv.int) (Sh.T Sh.int)) rfl) (fun h => ?_) (fun h => ?_)
      · cases oret h
      · refine gs_nil ?_
        show GS _ _ _ _
        refine gs_re [.sh ((eT PyData.int) x_wheels), .sh ((eT (eT PyData.int)) x_one), .sh ((eT (eT PyData.int)) x_two), .sh ((eT PyData.int) x_element), .sh ((eT PyData.int) x420), .sh ((eT PyData.int) x422)] rfl ?_
        obtain rfl := Sum.inl.inj (oret h)
        exact gs_end _ (.same (.same (.same (.same (.same (.any .nil)))))) rfl
    · obtain ⟨r423, hr423, g⟩ := obind h; clear h; have h := g; clear g
      refine gs_ifC h (gt_cmp (op_eqD (un64 hr)) (GE.gv (g_call c_plus hr tbn (mk_plus hr423) (ga_cons (g_v 0 rfl) (ga_cons (g_v 4 rfl) (ga_cons (g_v 5 rfl) ga_nil))))) (GE.gv (g_v 3 rfl)) (v_eqT (ε := (eT PyData.int)) (u := r423) (v := x_element) (Eqv.T Eqv.int) (Sh.T Sh.int)) rfl) (fun h => ?_) (fun h => ?_)
      · obtain rfl := Sum.inr.inj (oret h)
        exact gs_ret (g_tup (ga_cons (g_v 4 rfl) (ga_cons (g_v 5 rfl) ga_nil)) : GE _ _ _ ((eP (eT PyData.int) (eT PyData.int)) (x420, x422)) _) (Exists.intro _ rfl)
      · refine gs_nil ?_
        show GS _ _ _ _
        refine gs_re [.sh ((eT PyData.int) x_wheels), .sh ((eT (eT PyData.int)) x_one), .sh ((eT (eT PyData.int)) x_two), .sh ((eT PyData.int) x_element), .sh ((eT PyData.int) x420), .sh ((eT PyData.int) x422)] rfl ?_
        cases oret h
    · subst hs1
      replace h := onR_inl h
      cases oret h
    · subst hr0
      obtain rfl := Sum.inr.inj (oret (show some _ = some _ from h))
      exact ho
  · subst hs1
    replace h := onR_inl h
    obtain ⟨r428, hr428, g⟩ := obind h; clear h; have h := g; clear g
    obtain ⟨r429, hr429, g⟩ := obind h; clear h; have h := g; clear g
    obtain rfl := oret h
    exact gs_ret (g_tup (ga_cons (g_call c_nought hr tbn (mk_nought hr428) (ga_cons (g_v 0 rfl) ga_nil)) (ga_cons (g_call c_nought hr tbn (mk_nought hr429) (ga_cons (g_v 0 rfl) ga_nil)) ga_nil)) : GE _ _ _ ((eP (eT PyData.int) (eT PyData.int)) (r428, r429)) _) (Exists.intro _ rfl)
  · subst hr0
    obtain rfl := oret (onR_inr h)
    obtain ⟨C', rfl⟩ := ret_of ho
    exact Exists.intro _ rfl
def m_law (x_script : (List Int)) : Option Bool := (m__law_pool x_script).bind fun r7 => (m__law_wheels r7 (24 : Int)).bind fun r87 => (m__law_all r87.1).bind fun r99 => (m__law_group r87.2 r87.1).bind fun r128 => (m_split_paper r87.1 r128.1).bind fun r234 => (m__law_right r87.1 r128.1 r234).bind fun r323 => (oor (!r323) ((m_splits_off r87.1 r128.1).bind fun r328 => (sq r234).bind fun ds329 => (idx ds329 (0 : Int)).bind fun x330 => (gdS x330 (PyData.str ("beside" : Str))).bind fun u331 => some (!decide (r328 = (PyData.eqv x330 (PyData.str ("beside" : Str))))))).bind fun b332 => bif b332 then some false else (sq r234).bind fun ds333 => (toTD r234).bind fun ds334 => (toTD r234).bind fun ds335 => (szOk (ds335.length + [PyData.int (0 : Int)].length)).bind fun u336 => (idx r99 (0 : Int)).bind fun x337 => (idx r99 (0 : Int)).bind fun x338 => (idx r128.1 (-(1 : Int))).bind fun x339 => (some [r234, (eL eD) ds333, (eT eD) (cut ds334 none (some (1 : Int))), (eT eD) (ds335 ++ [PyData.int (0 : Int)]), (eP PyData.str (eT (eT PyData.int))) (("beside" : Str), [x337]), (eP PyData.str (eT (eT PyData.int))) (("beside" : Str), r99), (eQ PyData.str PyData.int (eT PyData.int)) (("stuck" : Str), (2 : Int), x338), (eQ PyData.str PyData.int (eT PyData.int)) (("stuck" : Str), (2 : Int), x339)]).bind fun v340 => (idx r128.1 (-(1 : Int))).bind fun x341 => (szOk (v340.length + [(eQ PyData.str PyData.bool (eT PyData.int)) (("stuck" : Str), true, x341), PyData.none].length)).bind fun u342 => (some (v340 ++ [(eQ PyData.str PyData.bool (eT PyData.int)) (("stuck" : Str), true, x341), PyData.none])).bind fun v343 => (rng 0 (5 : Int)).bind fun ks344 => (forF (fun (x346 : Int) (s345 : Pool × (List D)) => (m__law_bent 8 s345.1 r234).bind fun r390 => (szOk (s345.2.length + 1)).bind fun u391 => some (r390.2, (s345.2 ++ [r390.1]))) ks344 (r128.2, v343)).bind fun s392 => (forR (ρ := Bool) (fun (x394 : D) (s393 : Unit) => (gd (okR x394)).bind fun u395 => (m_check_split r87.1 r128.1 x394).bind fun r396 => (m__law_right r87.1 r128.1 x394).bind fun r397 => (oor (!decide (r396 = r397)) ((gd (okR x394)).bind fun u398 => some (!decide ((x394).shown = (x394).shown)))).bind fun b399 => bif b399 then some (.inr false) else some (.inl ())) s392.2 ()).bind fun z400 => onR z400 (fun (s401 : Unit) => (bif (!decide (r87.1 = [])) then (idx r87.1 (-(1 : Int))).bind fun x404 => some x404 else some (1 : Int)).bind fun v405 => (rng (1 : Int) (v405 + (1 : Int))).bind fun ks406 => (lcF (fun (x407 : Int) => (m_stuck_at r87.1 r128.1 x407).bind fun r408 => bif (!isNone ((eO (eT PyData.int)) r408)) then some (some x407) else some none) ks406).bind fun ys409 => (sq r234).bind fun ds410 => (idx ds410 (0 : Int)).bind fun x411 => (gdS x411 (PyData.str ("beside" : Str))).bind fun u412 => (oor (!decide ((decide (ys409 = [])) = (PyData.eqv x411 (PyData.str ("beside" : Str))))) ((m_beside_group r87.1 r128.1).bind fun r413 => some (!decide ((isNone ((eO (eT (eT PyData.int))) r413)) = (!decide (ys409 = [])))))).bind fun b414 => bif b414 then some false else bif (!decide (ys409 = [])) then (idx ys409 (0 : Int)).bind fun x415 => (m_stuck_at r87.1 r128.1 x415).bind fun r416 => (m__law_right r87.1 r128.1 ((eQ PyData.str PyData.int (eO (eT PyData.int))) (("stuck" : Str), x415, r416))).bind fun r417 => some r417 else (m__law_pick s392.1 r99).bind fun r418 => (sq r234).bind fun ds430 => (idx ds430 (1 : Int)).bind fun x431 => (toTW x431).bind fun w432 => (m_parts_of r87.1 r128.1 w432 r418.1).bind fun r433 => (szL r128.1).bind fun u434 => (lcF (fun (x435 : (List Int)) => (m__law_times r87.1 ((0 : Int) - (1 : Int)) x435).bind fun r436 => (m__law_sum r87.1 r418.1 r436).bind fun r437 => (sq r234).bind fun ds438 => (idx ds438 (1 : Int)).bind fun x439 => (toTW x439).bind fun w440 => bif (decide (r437 ∈ w440)) then some (some x435) else some none) r128.1).bind fun ys441 => (oand (decide (r433.1 ∈ r128.1)) ((sq r234).bind fun ds442 => (idx ds442 (1 : Int)).bind fun x443 => (toTW x443).bind fun w444 => (oand (decide (r433.2 ∈ w444)) ((m__law_sum r87.1 r433.1 r433.2).bind fun r445 => some ((decide (r445 = r418.1)) && (decide ((ys441.length : Int) = (1 : Int)))))).bind fun b446 => some b446)).bind fun b447 => some b447) (fun r0 => some r0)
def M_law (ds : List D) (d : D) : Prop := ∃ (x_script : List Int) (r : Bool), ds = x_script.map PyData.int ∧ m_law x_script = some r ∧ d = PyData.bool r
theorem mk_law {x : List Int} {r : Bool} (h : m_law x = some r) : M_law (x.map PyData.int) (PyData.bool r) := ⟨x, r, rfl, h, rfl⟩
abbrev s_law : Stmt := top 45
theorem sc_law : FnScope ["script", "pool", "wheels", "every", "group", "paper", "tried", "k", "value", "stuck", "x", "ways", "kept", "m", "one", "two", "a"] ["script"] (defScope s_law) := ⟨rfl, rfl, rfl, by decide +kernel, rfl, by decide +kernel, by decide +kernel⟩
theorem o_law (F : FnP K "law" s_law f fd) (c__law_pool : CalG [] P w K mg base 1 "_law_pool" (spK K M__law_pool) []) (c__law_wheels : CalG [] P w K mg base 13 "_law_wheels" (spP 2 M__law_wheels) []) (c__law_all : CalG [] P w K mg base 1 "_law_all" (spF 1 M__law_all) []) (c__law_group : CalG [] P w K mg base 4 "_law_group" (spP 2 M__law_group) []) (c_split_paper : CalG cs P w K mg base 5 "split_paper" (spF 2 M_split_paper) []) (c__law_right : CalG [] P w K mg base 3 "_law_right" (spF 3 M__law_right) []) (c_splits_off : CalG cs P w K mg base 6 "splits_off" (spF 2 M_splits_off) []) (c__law_bent : CalG [] P w K mg base 11 "_law_bent" (spP 2 (M__law_bent 8)) []) (c_check_split : CalG [] P w K mg base 5 "check_split" (spF 3 M_check_split) []) (c_stuck_at : CalG [] P w K mg base 3 "stuck_at" (spF 3 M_stuck_at) []) (c_beside_group : CalG cs P w K mg base 4 "beside_group" (spF 2 M_beside_group) []) (c__law_pick : CalG [] P w K mg base 3 "_law_pick" (spP 2 M__law_pick) []) (c_parts_of : CalG [] P w K mg base 2 "parts_of" (spF 4 M_parts_of) []) (c__law_sum : CalG [] P w K mg base 1 "_law_sum" (spF 3 M__law_sum) []) (c__law_times : CalG [] P w K mg base 1 "_law_times" (spF 3 M__law_times) []) (hm_len : mg "len" = none) (hm_list : mg "list" = none) (hm_range : mg "range" = none) (hm_repr : mg "repr" = none) (hm_tuple : mg "tuple" = none) : FnOkG cs P w K mg base CX0 14 f fd ["script"] (spKv K M_law) := by
  refine ok_fnKv (k := 13) F sc_law rfl (by decide) fun cdv A outer s H E hr ht ds d hM => ?_
  obtain ⟨x_script, r, rfl, h, rfl⟩ := hM
  have nd := sc_law.nd
  unfold m_law at h
  obtain ⟨r7, hr7, g⟩ := obind h; clear h; have h := g; clear g
  refine gs_setL 1 nd (g_callK 0 c__law_pool hr tbn (mk__law_pool hr7) rfl) ?_
  refine gs_re [.sp (klS K (x_script.map PyData.int)), .ol (ePool r7), .any, .any, .any, .any, .any, .any, .any, .any, .any, .any, .any, .any, .any, .any, .any] rfl ?_
  obtain ⟨r87, hr87, g⟩ := obind h; clear h; have h := g; clear g
  refine gs_set 2 nd (g_callP 1 c__law_wheels hr tbn rfl rfl (ga_cons g_int ga_nil) rfl rfl (mk__law_wheels hr87)) ?_
  refine gs_re [.sp (klS K (x_script.map PyData.int)), .ol (ePool r87.2), .sh ((eT PyData.int) r87.1), .any, .any, .any, .any, .any, .any, .any, .any, .any, .any, .any, .any, .any, .any] rfl ?_
  obtain ⟨r99, hr99, g⟩ := obind h; clear h; have h := g; clear g
  refine gs_set 3 nd (g_call c__law_all hr tbn (mk__law_all hr99) (ga_cons (g_v 2 rfl) ga_nil)) ?_
  refine gs_re [.sp (klS K (x_script.map PyData.int)), .ol (ePool r87.2), .sh ((eT PyData.int) r87.1), .sh ((eL (eT PyData.int)) r99), .any, .any, .any, .any, .any, .any, .any, .any, .any, .any, .any, .any, .any] rfl ?_
  obtain ⟨r128, hr128, g⟩ := obind h; clear h; have h := g; clear g
  refine gs_set 4 nd (g_callP 1 c__law_group hr tbn rfl rfl (ga_cons (g_v 2 rfl) ga_nil) rfl rfl (mk__law_group hr128)) ?_
  refine gs_re [.sp (klS K (x_script.map PyData.int)), .ol (ePool r128.2), .sh ((eT PyData.int) r87.1), .sh ((eL (eT PyData.int)) r99), .sh ((eT (eT PyData.int)) r128.1), .any, .any, .any, .any, .any, .any, .any, .any, .any, .any, .any, .any] rfl ?_
  obtain ⟨r234, hr234, g⟩ := obind h; clear h; have h := g; clear g
  refine gs_set 5 nd (g_call c_split_paper hr ht (mk_split_paper hr234) (ga_cons (g_v 2 rfl) (ga_cons (g_v 4 rfl) ga_nil))) ?_
  refine gs_re [.sp (klS K (x_script.map PyData.int)), .ol (ePool r128.2), .sh ((eT PyData.int) r87.1), .sh ((eL (eT PyData.int)) r99), .sh ((eT (eT PyData.int)) r128.1), .sh (eD r234), .any, .any, .any, .any, .any, .any, .any, .any, .any, .any, .any] rfl ?_
  obtain ⟨r323, hr323, g⟩ := obind h; clear h; have h := g; clear g
  obtain ⟨b332, hb332, g⟩ := obind h; clear h; have h := g; clear g
  refine gs_ifC h (GW.gt (w_orO hb332 (gt_not (gt_val (g_call c__law_right hr tbn (mk__law_right hr323) (ga_cons (g_v 2 rfl) (ga_cons (g_v 4 rfl) (ga_cons (g_v 5 rfl) ga_nil)))))) (fun h => by obtain ⟨r328, hr328, g⟩ := obind h; clear h; have h := g; clear g; obtain ⟨ds329, hds329, g⟩ := obind h; clear h; have h := g; clear g; obtain ⟨x330, hx330, g⟩ := obind h; clear h; have h := g; clear g; obtain ⟨u331, hu331, g⟩ := obind h; clear h; have h := g; clear g; obtain rfl := oret h; exact (gw_or1 (gt_cmp op_ne (GE.gv (g_call c_splits_off hr ht (mk_splits_off hr328) (ga_cons (g_v 2 rfl) (ga_cons (g_v 4 rfl) ga_nil)))) (GE.gv (g_cmp (op_eqD (un64 hr)) (GE.gv (g_ix hds329 hx330 (GE.gv (g_v 5 rfl)) g_int)) (GE.gv g_str) (v_eqG hu331) rfl)) v_neB rfl))))) (fun h => ?_) (fun h => ?_)
  · obtain rfl := oret h
    exact gs_ret g_bl (Exists.intro _ rfl)
  · refine gs_nil ?_
    show GS _ _ _ _
    refine gs_re [.sp (klS K (x_script.map PyData.int)), .ol (ePool r128.2), .sh ((eT PyData.int) r87.1), .sh ((eL (eT PyData.int)) r99), .sh ((eT (eT PyData.int)) r128.1), .sh (eD r234), .any, .any, .any, .any, .any, .any, .any, .any, .any, .any, .any] rfl ?_
    obtain ⟨ds333, hds333, g⟩ := obind h; clear h; have h := g; clear g
    obtain ⟨ds334, hds334, g⟩ := obind h; clear h; have h := g; clear g
    obtain ⟨ds335, hds335, g⟩ := obind h; clear h; have h := g; clear g
    obtain ⟨u336, hu336, g⟩ := obind h; clear h; have h := g; clear g
    obtain ⟨x337, hx337, g⟩ := obind h; clear h; have h := g; clear g
    obtain ⟨x338, hx338, g⟩ := obind h; clear h; have h := g; clear g
    obtain ⟨x339, hx339, g⟩ := obind h; clear h; have h := g; clear g
    obtain ⟨v340, hv340, g⟩ := obind h; clear h; have h := g; clear g
    refine gs_setL 6 nd (GL.cast (ε := eD) hv340 (g_lst (ga_cons (g_v 5 rfl) (ga_cons (GL.ge (by rw [eD_map]; exact g_list hds333 hm_list (GE.gv (g_v 5 rfl)))) (ga_cons (t_slT (xs := ds334) (ε := eD) (GE.toTD hds334 (g_v 5 rfl)) GO.none (GO.some g_int)) (ga_cons (t_catT (xs := ds335) (ys := [PyData.int (0 : Int)]) hu336 (GE.toTD hds335 (g_v 5 rfl)) (g_tup (ga_cons g_int ga_nil) : GE _ _ _ ((eT eD) [PyData.int (0 : Int)]) _)) (ga_cons (g_tup (ga_cons g_str (ga_cons (g_tup (ga_cons (t_ix (ε := (eT PyData.int)) (xs := r99) hx337 rfl (GE.gv (g_v 3 rfl)) g_int) ga_nil) : GE _ _ _ ((eT (eT PyData.int)) [x337]) _) ga_nil)) : GE _ _ _ ((eP PyData.str (eT (eT PyData.int))) (("beside" : Str), [x337])) _) (ga_cons (g_tup (ga_cons g_str (ga_cons (g_tuple rfl hm_tuple (GE.gv (g_v 3 rfl))) ga_nil)) : GE _ _ _ ((eP PyData.str (eT (eT PyData.int))) (("beside" : Str), r99)) _) (ga_cons (g_tup (ga_cons g_str (ga_cons g_int (ga_cons (t_ix (ε := (eT PyData.int)) (xs := r99) hx338 rfl (GE.gv (g_v 3 rfl)) g_int) ga_nil))) : GE _ _ _ ((eQ PyData.str PyData.int (eT PyData.int)) (("stuck" : Str), (2 : Int), x338)) _) (ga_cons (g_tup (ga_cons g_str (ga_cons g_int (ga_cons (t_ix (ε := (eT PyData.int)) (xs := r128.1) hx339 rfl (GE.gv (g_v 4 rfl)) (g_neg g_int)) ga_nil))) : GE _ _ _ ((eQ PyData.str PyData.int (eT PyData.int)) (("stuck" : Str), (2 : Int), x339)) _) ga_nil)))))))) : GL _ _ _ (List.map eD [r234, (eL eD) ds333, (eT eD) (cut ds334 none (some (1 : Int))), (eT eD) (ds335 ++ [PyData.int (0 : Int)]), (eP PyData.str (eT (eT PyData.int))) (("beside" : Str), [x337]), (eP PyData.str (eT (eT PyData.int))) (("beside" : Str), r99), (eQ PyData.str PyData.int (eT PyData.int)) (("stuck" : Str), (2 : Int), x338), (eQ PyData.str PyData.int (eT PyData.int)) (("stuck" : Str), (2 : Int), x339)]) _)) ?_
    refine gs_re [.sp (klS K (x_script.map PyData.int)), .ol (ePool r128.2), .sh ((eT PyData.int) r87.1), .sh ((eL (eT PyData.int)) r99), .sh ((eT (eT PyData.int)) r128.1), .sh (eD r234), .ol (v340.map eD), .any, .any, .any, .any, .any, .any, .any, .any, .any, .any] rfl ?_
    obtain ⟨x341, hx341, g⟩ := obind h; clear h; have h := g; clear g
    obtain ⟨u342, hu342, g⟩ := obind h; clear h; have h := g; clear g
    obtain ⟨v343, hv343, g⟩ := obind h; clear h; have h := g; clear g
    refine gs_setL 6 nd (GL.cast (ε := eD) hv343 (t_catL hu342 (g_vo 6 rfl) (GL.v (g_lst (ga_cons (g_tup (ga_cons g_str (ga_cons g_bl (ga_cons (t_ix (ε := (eT PyData.int)) (xs := r128.1) hx341 rfl (GE.gv (g_v 4 rfl)) (g_neg g_int)) ga_nil))) : GE _ _ _ ((eQ PyData.str PyData.bool (eT PyData.int)) (("stuck" : Str), true, x341)) _) (ga_cons g_non ga_nil)) : GL _ _ _ (List.map eD [(eQ PyData.str PyData.bool (eT PyData.int)) (("stuck" : Str), true, x341), PyData.none]) _)))) ?_
    refine gs_re [.sp (klS K (x_script.map PyData.int)), .ol (ePool r128.2), .sh ((eT PyData.int) r87.1), .sh ((eL (eT PyData.int)) r99), .sh ((eT (eT PyData.int)) r128.1), .sh (eD r234), .ol (v343.map eD), .any, .any, .any, .any, .any, .any, .any, .any, .any, .any] rfl ?_
    obtain ⟨ks344, hks344, g⟩ := obind h; clear h; have h := g; clear g
    obtain ⟨s392, hs392, g⟩ := obind h; clear h; have h := g; clear g
    refine gs_forF (S := Pool × (List D)) (ε := PyData.int) (Cs := fun s => [.sp (klS K (x_script.map PyData.int)), .ol (ePool s.1), .sh ((eT PyData.int) r87.1), .sh ((eL (eT PyData.int)) r99), .sh ((eT (eT PyData.int)) r128.1), .sh (eD r234), .ol (s.2.map eD), .any, .any, .any, .any, .any, .any, .any, .any, .any, .any]) (Cx := fun x s => [.sp (klS K (x_script.map PyData.int)), .ol (ePool s.1), .sh ((eT PyData.int) r87.1), .sh ((eL (eT PyData.int)) r99), .sh ((eT (eT PyData.int)) r128.1), .sh (eD r234), .ol (s.2.map eD), .sh (PyData.int x), .any, .any, .any, .any, .any, .any, .any, .any, .any]) (is := [7]) hs392 (t_range1 hks344 hm_range g_int) (.same (.same (.same (.same (.same (.same (.same (.any (.any (.any (.any (.any (.any (.any (.any (.any (.any .nil))))))))))))))))) PassesOwn.never rfl (fun x s => (gg_name 7 nd)) (fun x346 hx s345 s' h => ?_) ?_
    · obtain ⟨r390, hr390, g⟩ := obind h; clear h; have h := g; clear g
      obtain ⟨u391, hu391, g⟩ := obind h; clear h; have h := g; clear g
      refine gs_expr (t_append 6 hu391 rfl (g_callP 1 c__law_bent hr tbn rfl rfl (ga_cons (g_v 5 rfl) ga_nil) rfl rfl (mk__law_bent hr390)) rfl) ?_
      obtain rfl := oret h
      exact gs_end _ (.same (.same (.same (.same (.same (.same (.same (.any (.any (.any (.any (.any (.any (.any (.any (.any (.any .nil))))))))))))))))) rfl
    obtain ⟨z400, hz400, g⟩ := obind h; clear h; have h := g; clear g
    refine gs_forR (S := Unit) (ρ := Bool) (Pr := fun r o => ∃ C', o = .rt (PyData.bool r) C') (ε := eD) (Cs := fun s => [.sp (klS K (x_script.map PyData.int)), .ol (ePool s392.1), .sh ((eT PyData.int) r87.1), .sh ((eL (eT PyData.int)) r99), .sh ((eT (eT PyData.int)) r128.1), .sh (eD r234), .sh ((eL eD) s392.2), .any, .any, .any, .any, .any, .any, .any, .any, .any, .any]) (Cx := fun x s => [.sp (klS K (x_script.map PyData.int)), .ol (ePool s392.1), .sh ((eT PyData.int) r87.1), .sh ((eL (eT PyData.int)) r99), .sh ((eT (eT PyData.int)) r128.1), .sh (eD r234), .sh ((eL eD) s392.2), .any, .sh (eD x), .any, .any, .any, .any, .any, .any, .any, .any]) (is := [8]) hz400 (gi_list (g_frz 6 rfl)) (.same (.same (.same (.same (.same (.same (.same (.any (.any (.any (.any (.any (.any (.any (.any (.any (.any .nil))))))))))))))))) PassesOwn.never rfl (fun x s => (gg_name 8 nd)) (fun x394 hx s393 s' h => ?_) (fun x394 hx s393 r0 h => ?_) (fun s401 hs1 => ?_) (fun r0 hr0 o ho => ?_)
    · obtain ⟨u395, hu395, g⟩ := obind h; clear h; have h := g; clear g
      refine gs_set 12 nd (g_repr hr (gd_t hu395) hm_repr (g_v 8 rfl)) ?_
      refine gs_re [.sp (klS K (x_script.map PyData.int)), .ol (ePool s392.1), .sh ((eT PyData.int) r87.1), .sh ((eL (eT PyData.int)) r99), .sh ((eT (eT PyData.int)) r128.1), .sh (eD r234), .sh ((eL eD) s392.2), .any, .sh (eD x394), .any, .any, .any, .sh (PyData.str ((x394).shown)), .any, .any, .any, .any] rfl ?_
      obtain ⟨r396, hr396, g⟩ := obind h; clear h; have h := g; clear g
      obtain ⟨r397, hr397, g⟩ := obind h; clear h; have h := g; clear g
      obtain ⟨b399, hb399, g⟩ := obind h; clear h; have h := g; clear g
      refine gs_ifC h (GW.gt (w_orO hb399 (gt_cmp op_ne (GE.gv (g_call c_check_split hr tbn (mk_check_split hr396) (ga_cons (g_v 2 rfl) (ga_cons (g_v 4 rfl) (ga_cons (g_v 8 rfl) ga_nil))))) (GE.gv (g_call c__law_right hr tbn (mk__law_right hr397) (ga_cons (g_v 2 rfl) (ga_cons (g_v 4 rfl) (ga_cons (g_v 8 rfl) ga_nil))))) v_neB rfl) (fun h => by obtain ⟨u398, hu398, g⟩ := obind h; clear h; have h := g; clear g; obtain rfl := oret h; exact (gw_or1 (gt_cmp op_ne (GE.gv (g_repr hr (gd_t hu398) hm_repr (g_v 8 rfl))) (GE.gv (g_v 12 rfl)) v_neS rfl))))) (fun h => ?_) (fun h => ?_)
      · cases oret h
      · refine gs_nil ?_
        show GS _ _ _ _
        refine gs_re [.sp (klS K (x_script.map PyData.int)), .ol (ePool s392.1), .sh ((eT PyData.int) r87.1), .sh ((eL (eT PyData.int)) r99), .sh ((eT (eT PyData.int)) r128.1), .sh (eD r234), .sh ((eL eD) s392.2), .any, .sh (eD x394), .any, .any, .any, .sh (PyData.str ((x394).shown)), .any, .any, .any, .any] rfl ?_
        obtain rfl := Sum.inl.inj (oret h)
        exact gs_end _ (.same (.same (.same (.same (.same (.same (.same (.any (.any (.any (.any (.any (.any (.any (.any (.any (.any .nil))))))))))))))))) rfl
    · obtain ⟨u395, hu395, g⟩ := obind h; clear h; have h := g; clear g
      refine gs_set 12 nd (g_repr hr (gd_t hu395) hm_repr (g_v 8 rfl)) ?_
      refine gs_re [.sp (klS K (x_script.map PyData.int)), .ol (ePool s392.1), .sh ((eT PyData.int) r87.1), .sh ((eL (eT PyData.int)) r99), .sh ((eT (eT PyData.int)) r128.1), .sh (eD r234), .sh ((eL eD) s392.2), .any, .sh (eD x394), .any, .any, .any, .sh (PyData.str ((x394).shown)), .any, .any, .any, .any] rfl ?_
      obtain ⟨r396, hr396, g⟩ := obind h; clear h; have h := g; clear g
      obtain ⟨r397, hr397, g⟩ := obind h; clear h; have h := g; clear g
      obtain ⟨b399, hb399, g⟩ := obind h; clear h; have h := g; clear g
      refine gs_ifC h (GW.gt (w_orO hb399 (gt_cmp op_ne (GE.gv (g_call c_check_split hr tbn (mk_check_split hr396) (ga_cons (g_v 2 rfl) (ga_cons (g_v 4 rfl) (ga_cons (g_v 8 rfl) ga_nil))))) (GE.gv (g_call c__law_right hr tbn (mk__law_right hr397) (ga_cons (g_v 2 rfl) (ga_cons (g_v 4 rfl) (ga_cons (g_v 8 rfl) ga_nil))))) v_neB rfl) (fun h => by obtain ⟨u398, hu398, g⟩ := obind h; clear h; have h := g; clear g; obtain rfl := oret h; exact (gw_or1 (gt_cmp op_ne (GE.gv (g_repr hr (gd_t hu398) hm_repr (g_v 8 rfl))) (GE.gv (g_v 12 rfl)) v_neS rfl))))) (fun h => ?_) (fun h => ?_)
      · obtain rfl := Sum.inr.inj (oret h)
        exact gs_ret g_bl (Exists.intro _ rfl)
      · refine gs_nil ?_
        show GS _ _ _ _
        refine gs_re [.sp (klS K (x_script.map PyData.int)), .ol (ePool s392.1), .sh ((eT PyData.int) r87.1), .sh ((eL (eT PyData.int)) r99), .sh ((eT (eT PyData.int)) r128.1), .sh (eD r234), .sh ((eL eD) s392.2), .any, .sh (eD x394), .any, .any, .any, .sh (PyData.str ((x394).shown)), .any, .any, .any, .any] rfl ?_
        cases oret h
    · subst hs1
      replace h := onR_inl h
      obtain ⟨v405, hv405, g⟩ := obind h; clear h; have h := g; clear g
      obtain ⟨ks406, hks406, g⟩ := obind h; clear h; have h := g; clear g
      obtain ⟨ys409, hys409, g⟩ := obind h; clear h; have h := g; clear g
      refine gs_setLc 9 (ε := PyData.int) (ε' := PyData.int) hys409 (rng_spec hks406).2.2.2 rfl nd (own := [("m", 13)]) (blkOk_by (by first | rfl | kernel_rfl)) (t_range2 hks406 hm_range g_int (g_add (t_ifO (ε := PyData.int) hv405 (gt_cmp (op_neD (un64 hr)) (GE.gv (g_v 2 rfl)) (GE.gv (g_tup ga_nil : GE _ _ _ ((eT PyData.int) []) _)) (v_neT (ε := (eT PyData.int)) (u := r87.1) (v := []) (Eqv.T Eqv.int) (Sh.T Sh.int)) rfl) (fun h => by obtain ⟨x404, hx404, g⟩ := obind h; clear h; have h := g; clear g; obtain rfl := oret h; exact (t_ix (ε := PyData.int) (xs := r87.1) hx404 rfl (GE.gv (g_v 2 rfl)) (g_neg g_int))) (fun h => by obtain rfl := oret h; exact g_int)) g_int)) (NoOwn.by rfl) (fun x407 hx o h => by obtain ⟨r408, hr408, g⟩ := obind h; clear h; have h := g; clear g; exact turn_if h (fun B => (gg_name 13 nd)) (fun B => (gt_cmp op_notN (GE.gv (g_call c_stuck_at hr tbn (mk_stuck_at hr408) (ga_cons (g_v 2 rfl) (ga_cons (g_v 4 rfl) (ga_cons (g_v 13 rfl) ga_nil))))) (GE.gv g_non) v_notN rfl)) (fun h => by exact ⟨_, _, (oret h).symm, (fun B => (g_v 13 rfl)), rfl⟩)) ?_
      refine gs_re [.sp (klS K (x_script.map PyData.int)), .ol (ePool s392.1), .sh ((eT PyData.int) r87.1), .sh ((eL (eT PyData.int)) r99), .sh ((eT (eT PyData.int)) r128.1), .sh (eD r234), .sh ((eL eD) s392.2), .any, .any, .ol (ys409.map PyData.int), .any, .any, .any, .any, .any, .any, .any] rfl ?_
      obtain ⟨ds410, hds410, g⟩ := obind h; clear h; have h := g; clear g
      obtain ⟨x411, hx411, g⟩ := obind h; clear h; have h := g; clear g
      obtain ⟨u412, hu412, g⟩ := obind h; clear h; have h := g; clear g
      obtain ⟨b414, hb414, g⟩ := obind h; clear h; have h := g; clear g
      refine gs_ifC h (GW.gt (w_orO hb414 (gt_cmp op_ne (GE.gv (g_cmp (op_eqD (un64 hr)) (g_vo 9 rfl) (GL.v (g_lst ga_nil : GL _ _ _ (List.map PyData.int []) _)) (v_eqT (ε := (eL PyData.int)) (u := ys409) (v := []) (Eqv.L Eqv.int) (Sh.L Sh.int)) rfl)) (GE.gv (g_cmp (op_eqD (un64 hr)) (GE.gv (g_ix hds410 hx411 (GE.gv (g_v 5 rfl)) g_int)) (GE.gv g_str) (v_eqG hu412) rfl)) v_neB rfl) (fun h => by obtain ⟨r413, hr413, g⟩ := obind h; clear h; have h := g; clear g; obtain rfl := oret h; exact (gw_or1 (gt_cmp op_ne (GE.gv (g_cmp op_isN (GE.gv (g_call c_beside_group hr ht (mk_beside_group hr413) (ga_cons (g_v 2 rfl) (ga_cons (g_v 4 rfl) ga_nil)))) (GE.gv g_non) v_isN rfl)) (GE.gv (g_cmp (op_neD (un64 hr)) (g_vo 9 rfl) (GL.v (g_lst ga_nil : GL _ _ _ (List.map PyData.int []) _)) (v_neT (ε := (eL PyData.int)) (u := ys409) (v := []) (Eqv.L Eqv.int) (Sh.L Sh.int)) rfl)) v_neB rfl))))) (fun h => ?_) (fun h => ?_)
      · obtain rfl := oret h
        exact gs_ret g_bl (Exists.intro _ rfl)
      · refine gs_nil ?_
        show GS _ _ _ _
        refine gs_re [.sp (klS K (x_script.map PyData.int)), .ol (ePool s392.1), .sh ((eT PyData.int) r87.1), .sh ((eL (eT PyData.int)) r99), .sh ((eT (eT PyData.int)) r128.1), .sh (eD r234), .sh ((eL eD) s392.2), .any, .any, .ol (ys409.map PyData.int), .any, .any, .any, .any, .any, .any, .any] rfl ?_
        refine gs_ifC h (gt_cmp (op_neD (un64 hr)) (g_vo 9 rfl) (GL.v (g_lst ga_nil : GL _ _ _ (List.map PyData.int []) _)) (v_neT (ε := (eL PyData.int)) (u := ys409) (v := []) (Eqv.L Eqv.int) (Sh.L Sh.int)) rfl) (fun h => ?_) (fun h => ?_)
        · obtain ⟨x415, hx415, g⟩ := obind h; clear h; have h := g; clear g
          refine gs_set 13 nd (t_ix (ε := PyData.int) (xs := ys409) hx415 rfl (g_vo 9 rfl) g_int) ?_
          refine gs_re [.sp (klS K (x_script.map PyData.int)), .ol (ePool s392.1), .sh ((eT PyData.int) r87.1), .sh ((eL (eT PyData.int)) r99), .sh ((eT (eT PyData.int)) r128.1), .sh (eD r234), .sh ((eL eD) s392.2), .any, .any, .ol (ys409.map PyData.int), .any, .any, .any, .sh (PyData.int x415), .any, .any, .any] rfl ?_
          obtain ⟨r416, hr416, g⟩ := obind h; clear h; have h := g; clear g
          obtain ⟨r417, hr417, g⟩ := obind h; clear h; have h := g; clear g
          obtain rfl := oret h
          exact gs_ret (g_call c__law_right hr tbn (mk__law_right hr417) (ga_cons (g_v 2 rfl) (ga_cons (g_v 4 rfl) (ga_cons (g_tup (ga_cons g_str (ga_cons (g_v 13 rfl) (ga_cons (g_call c_stuck_at hr tbn (mk_stuck_at hr416) (ga_cons (g_v 2 rfl) (ga_cons (g_v 4 rfl) (ga_cons (g_v 13 rfl) ga_nil)))) ga_nil))) : GE _ _ _ ((eQ PyData.str PyData.int (eO (eT PyData.int))) (("stuck" : Str), x415, r416)) _) ga_nil)))) (Exists.intro _ rfl)
        · refine gs_nil ?_
          show GS _ _ _ _
          refine gs_re [.sp (klS K (x_script.map PyData.int)), .ol (ePool s392.1), .sh ((eT PyData.int) r87.1), .sh ((eL (eT PyData.int)) r99), .sh ((eT (eT PyData.int)) r128.1), .sh (eD r234), .sh ((eL eD) s392.2), .any, .any, .ol (ys409.map PyData.int), .any, .any, .any, .any, .any, .any, .any] rfl ?_
          obtain ⟨r418, hr418, g⟩ := obind h; clear h; have h := g; clear g
          refine gs_set 10 nd (g_callP 1 c__law_pick hr tbn rfl rfl (ga_cons (g_v 3 rfl) ga_nil) rfl rfl (mk__law_pick (ε := (eT PyData.int)) (xs := r99) rfl hr418)) ?_
          refine gs_re [.sp (klS K (x_script.map PyData.int)), .ol (ePool r418.2), .sh ((eT PyData.int) r87.1), .sh ((eL (eT PyData.int)) r99), .sh ((eT (eT PyData.int)) r128.1), .sh (eD r234), .sh ((eL eD) s392.2), .any, .any, .ol (ys409.map PyData.int), .sh ((eT PyData.int) r418.1), .any, .any, .any, .any, .any, .any] rfl ?_
          obtain ⟨ds430, hds430, g⟩ := obind h; clear h; have h := g; clear g
          obtain ⟨x431, hx431, g⟩ := obind h; clear h; have h := g; clear g
          obtain ⟨w432, hw432, g⟩ := obind h; clear h; have h := g; clear g
          obtain ⟨r433, hr433, g⟩ := obind h; clear h; have h := g; clear g
          refine gs_asg (g_call c_parts_of hr tbn (mk_parts_of hr433) (ga_cons (g_v 2 rfl) (ga_cons (g_v 4 rfl) (ga_cons (GE.toTW hw432 (g_ix hds430 hx431 (GE.gv (g_v 5 rfl)) g_int)) (ga_cons (g_v 10 rfl) ga_nil))))) (gg_tup rfl (ggs_cons (gg_name 14 nd) (ggs_cons (gg_name 15 nd) ggs_nil))) ?_
          refine gs_re [.sp (klS K (x_script.map PyData.int)), .ol (ePool r418.2), .sh ((eT PyData.int) r87.1), .sh ((eL (eT PyData.int)) r99), .sh ((eT (eT PyData.int)) r128.1), .sh (eD r234), .sh ((eL eD) s392.2), .any, .any, .ol (ys409.map PyData.int), .sh ((eT PyData.int) r418.1), .any, .any, .any, .sh ((eT PyData.int) r433.1), .sh ((eT PyData.int) r433.2), .any] rfl ?_
          obtain ⟨u434, hu434, g⟩ := obind h; clear h; have h := g; clear g
          obtain ⟨ys441, hys441, g⟩ := obind h; clear h; have h := g; clear g
          refine gs_set 11 nd (t_len (xs := ys441) (ε := (eT PyData.int)) hm_len rfl (GL.v (g_lc (ε := (eT PyData.int)) (ε' := (eT PyData.int)) hys441 (szL_le hu434) rfl nd (own := [("a", 16)]) (blkOk_by (by first | rfl | kernel_rfl)) (gi_tup (g_v 4 rfl)) (NoOwn.by rfl) (fun x435 hx o h => by obtain ⟨r436, hr436, g⟩ := obind h; clear h; have h := g; clear g; obtain ⟨r437, hr437, g⟩ := obind h; clear h; have h := g; clear g; obtain ⟨ds438, hds438, g⟩ := obind h; clear h; have h := g; clear g; obtain ⟨x439, hx439, g⟩ := obind h; clear h; have h := g; clear g; obtain ⟨w440, hw440, g⟩ := obind h; clear h; have h := g; clear g; exact turn_if h (fun B => (gg_name 16 nd)) (fun B => (gt_cmpE (op_inS hr) (g_call c__law_sum hr tbn (mk__law_sum hr437) (ga_cons (g_v 2 rfl) (ga_cons (g_v 10 rfl) (ga_cons (g_call c__law_times hr tbn (mk__law_times hr436) (ga_cons (g_v 2 rfl) (ga_cons (g_sub g_int g_int) (ga_cons (g_v 16 rfl) ga_nil)))) ga_nil)))) (GE.gv (GE.toTW hw440 (g_ix hds438 hx439 (GE.gv (g_v 5 rfl)) g_int))) (v_inT (Eqv.T Eqv.int) (Sh.T Sh.int) (xs := w440) rfl (Sh.shaped (Sh.T (Sh.T Sh.int)) (by decide) w440)) rfl)) (fun h => by exact ⟨_, _, (oret h).symm, (fun B => (g_v 16 rfl)), rfl⟩))))) ?_
          refine gs_re [.sp (klS K (x_script.map PyData.int)), .ol (ePool r418.2), .sh ((eT PyData.int) r87.1), .sh ((eL (eT PyData.int)) r99), .sh ((eT (eT PyData.int)) r128.1), .sh (eD r234), .sh ((eL eD) s392.2), .any, .any, .ol (ys409.map PyData.int), .sh ((eT PyData.int) r418.1), .sh (PyData.int (ys441.length : Int)), .any, .any, .sh ((eT PyData.int) r433.1), .sh ((eT PyData.int) r433.2), .any] rfl ?_
          obtain ⟨b447, hb447, g⟩ := obind h; clear h; have h := g; clear g
          obtain rfl := oret h
          exact gs_ret (b_andO hb447 (g_cmpE (op_inS hr) (g_v 14 rfl) (GE.gv (g_v 4 rfl)) (v_inT (Eqv.T Eqv.int) (Sh.T Sh.int) (xs := r128.1) rfl (Sh.shaped (Sh.T (Sh.T Sh.int)) (by decide) r128.1)) rfl) (fun h => by obtain ⟨ds442, hds442, g⟩ := obind h; clear h; have h := g; clear g; obtain ⟨x443, hx443, g⟩ := obind h; clear h; have h := g; clear g; obtain ⟨w444, hw444, g⟩ := obind h; clear h; have h := g; clear g; obtain ⟨b446, hb446, g⟩ := obind h; clear h; have h := g; clear g; obtain rfl := oret h; exact (b_andO hb446 (g_cmpE (op_inS hr) (g_v 15 rfl) (GE.gv (GE.toTW hw444 (g_ix hds442 hx443 (GE.gv (g_v 5 rfl)) g_int))) (v_inT (Eqv.T Eqv.int) (Sh.T Sh.int) (xs := w444) rfl (Sh.shaped (Sh.T (Sh.T Sh.int)) (by decide) w444)) rfl) (fun h => by obtain ⟨r445, hr445, g⟩ := obind h; clear h; have h := g; clear g; obtain rfl := oret h; exact (b_and (g_cmp (op_eqD (un64 hr)) (GE.gv (g_call c__law_sum hr tbn (mk__law_sum hr445) (ga_cons (g_v 2 rfl) (ga_cons (g_v 14 rfl) (ga_cons (g_v 15 rfl) ga_nil))))) (GE.gv (g_v 10 rfl)) (v_eqT (ε := (eT PyData.int)) (u := r445) (v := r418.1) (Eqv.T Eqv.int) (Sh.T Sh.int)) rfl) (g_one (g_cmp op_eq (GE.gv (g_v 11 rfl)) (GE.gv g_int) v_eqI rfl))))))) (Exists.intro _ rfl)
    · subst hr0
      obtain rfl := oret (onR_inr h)
      obtain ⟨C', rfl⟩ := ret_of ho
      exact Exists.intro _ rfl
end
/-! ### the head -/
def d__law_pool : He.DefD := ⟨("_law_pool", none), "_law_pool", "_law_pool", defArgs s__law_pool, defBody s__law_pool, defScope s__law_pool, [], []⟩
def d__law_spread : He.DefD := ⟨("_law_spread", none), "_law_spread", "_law_spread", defArgs s__law_spread, defBody s__law_spread, defScope s__law_spread, [], []⟩
def d__law_draw : He.DefD := ⟨("_law_draw", none), "_law_draw", "_law_draw", defArgs s__law_draw, defBody s__law_draw, defScope s__law_draw, [], []⟩
def d__law_pick : He.DefD := ⟨("_law_pick", none), "_law_pick", "_law_pick", defArgs s__law_pick, defBody s__law_pick, defScope s__law_pick, [], []⟩
def d__law_falling : He.DefD := ⟨("_law_falling", none), "_law_falling", "_law_falling", defArgs s__law_falling, defBody s__law_falling, defScope s__law_falling, [], []⟩
def d__law_wheels_with : He.DefD := ⟨("_law_wheels_with", none), "_law_wheels_with", "_law_wheels_with", defArgs s__law_wheels_with, defBody s__law_wheels_with, defScope s__law_wheels_with, [], []⟩
def d__law_wheels : He.DefD := ⟨("_law_wheels", none), "_law_wheels", "_law_wheels", defArgs s__law_wheels, defBody s__law_wheels, defScope s__law_wheels, [], []⟩
def d__law_all : He.DefD := ⟨("_law_all", none), "_law_all", "_law_all", defArgs s__law_all, defBody s__law_all, defScope s__law_all, [], []⟩
def d__law_sum : He.DefD := ⟨("_law_sum", none), "_law_sum", "_law_sum", defArgs s__law_sum, defBody s__law_sum, defScope s__law_sum, [], []⟩
def d__law_made : He.DefD := ⟨("_law_made", none), "_law_made", "_law_made", defArgs s__law_made, defBody s__law_made, defScope s__law_made, [], []⟩
def d__law_group : He.DefD := ⟨("_law_group", none), "_law_group", "_law_group", defArgs s__law_group, defBody s__law_group, defScope s__law_group, [], []⟩
def d_size_of : He.DefD := ⟨("size_of", none), "size_of", "size_of", defArgs s_size_of, defBody s_size_of, defScope s_size_of, [], []⟩
def d_elements_of : He.DefD := ⟨("elements_of", none), "elements_of", "elements_of", defArgs s_elements_of, defBody s_elements_of, defScope s_elements_of, [], []⟩
def d_nought : He.DefD := ⟨("nought", none), "nought", "nought", defArgs s_nought, defBody s_nought, defScope s_nought, [], []⟩
def d_plus : He.DefD := ⟨("plus", none), "plus", "plus", defArgs s_plus, defBody s_plus, defScope s_plus, [], []⟩
def d_made_by : He.DefD := ⟨("made_by", none), "made_by", "made_by", defArgs s_made_by, defBody s_made_by, defScope s_made_by, [], []⟩
def d_is_within : He.DefD := ⟨("is_within", none), "is_within", "is_within", defArgs s_is_within, defBody s_is_within, defScope s_is_within, [], []⟩
def d_need_within : He.DefD := ⟨("need_within", none), "need_within", "need_within", defArgs s_need_within, defBody s_need_within, defScope s_need_within, [], []⟩
def d_exponent_of : He.DefD := ⟨("exponent_of", none), "exponent_of", "exponent_of", defArgs s_exponent_of, defBody s_exponent_of, defScope s_exponent_of, [], []⟩
def d_times_element : He.DefD := ⟨("times_element", none), "times_element", "times_element", defArgs s_times_element, defBody s_times_element, defScope s_times_element, [], []⟩
def d_stuck_at : He.DefD := ⟨("stuck_at", none), "stuck_at", "stuck_at", defArgs s_stuck_at, defBody s_stuck_at, defScope s_stuck_at, [], []⟩
def d_groups_within : He.DefD := ⟨("groups_within", none), "groups_within", "groups_within", defArgs s_groups_within, defBody s_groups_within, defScope s_groups_within, [], []⟩
def d_beside_group : He.DefD := ⟨("beside_group", none), "beside_group", "beside_group", defArgs s_beside_group, defBody s_beside_group, defScope s_beside_group, [], []⟩
def d_split_paper : He.DefD := ⟨("split_paper", none), "split_paper", "split_paper", defArgs s_split_paper, defBody s_split_paper, defScope s_split_paper, [], []⟩
def d__law_is_integer : He.DefD := ⟨("_law_is_integer", none), "_law_is_integer", "_law_is_integer", defArgs s__law_is_integer, defBody s__law_is_integer, defScope s__law_is_integer, [], []⟩
def d__law_times : He.DefD := ⟨("_law_times", none), "_law_times", "_law_times", defArgs s__law_times, defBody s__law_times, defScope s__law_times, [], []⟩
def d__law_right : He.DefD := ⟨("_law_right", none), "_law_right", "_law_right", defArgs s__law_right, defBody s__law_right, defScope s__law_right, [], []⟩
def d_splits_off : He.DefD := ⟨("splits_off", none), "splits_off", "splits_off", defArgs s_splits_off, defBody s_splits_off, defScope s_splits_off, [], []⟩
def d__law_bent : He.DefD := ⟨("_law_bent", none), "_law_bent", "_law_bent", defArgs s__law_bent, defBody s__law_bent, defScope s__law_bent, [], []⟩
def d_is_named : He.DefD := ⟨("is_named", none), "is_named", "is_named", defArgs s_is_named, defBody s_is_named, defScope s_is_named, [], []⟩
def d_is_whole : He.DefD := ⟨("is_whole", none), "is_whole", "is_whole", defArgs s_is_whole, defBody s_is_whole, defScope s_is_whole, [], []⟩
def d_is_element : He.DefD := ⟨("is_element", none), "is_element", "is_element", defArgs s_is_element, defBody s_is_element, defScope s_is_element, [], []⟩
def d_check_split : He.DefD := ⟨("check_split", none), "check_split", "check_split", defArgs s_check_split, defBody s_check_split, defScope s_check_split, [], []⟩
def d_parts_of : He.DefD := ⟨("parts_of", none), "parts_of", "parts_of", defArgs s_parts_of, defBody s_parts_of, defScope s_parts_of, [], []⟩
def d_law : He.DefD := ⟨("law", none), "law", "law", defArgs s_law, defBody s_law, defScope s_law, [], []⟩
def fn_0 : List He.DefD := [d__law_pool, d__law_spread, d__law_draw, d__law_pick, d__law_falling, d__law_wheels_with, d__law_wheels, d__law_all, d__law_sum, d__law_made, d__law_group, d_size_of, d_elements_of, d_nought, d_plus, d_made_by, d_is_within, d_need_within, d_exponent_of, d_times_element, d_stuck_at, d_groups_within, d_beside_group, d_split_paper, d__law_is_integer, d__law_times, d__law_right, d_splits_off, d__law_bent, d_is_named]
def fn_1 : List He.DefD := [d_is_whole, d_is_element, d_check_split, d_parts_of, d_law]
def fn : List He.DefD := fn_0 ++ fn_1
def fa_0 : List He.Fa := [.glo "_law_pool", .glo "_law_spread", .glo "_law_draw", .glo "_law_pick", .glo "_law_falling", .glo "_law_wheels_with", .glo "_law_wheels", .glo "_law_all", .glo "_law_sum", .glo "_law_made", .glo "_law_group", .glo "size_of", .glo "elements_of", .glo "nought", .glo "plus", .glo "made_by", .glo "is_within", .glo "need_within", .glo "exponent_of", .glo "times_element", .glo "stuck_at", .glo "groups_within", .glo "beside_group", .glo "split_paper", .glo "_law_is_integer", .glo "_law_times", .glo "_law_right", .glo "splits_off", .glo "_law_bent", .glo "is_named"]
def fa_1 : List He.Fa := [.glo "is_whole", .glo "is_element", .glo "check_split", .glo "parts_of", .glo "law", .free "all", .free "bool", .free "int", .free "isinstance", .free "len", .free "list", .free "max", .free "min", .free "range", .free "repr", .free "set", .free "sorted", .free "str", .free "tuple", .free "zip", .int "MOST_ELEMENTS" 200]
def fa : List He.Fa := fa_0 ++ fa_1
abbrev R : PySem.W.OpenRow := PySem.W.OpenLaw.row PySem.Challenge.rw_wheelsparted_k10_split_papers_judged
def tf : List He.Defn := [("groups_within", none)]
def ex (_ : PySem.W.Frag) : Bool := true
abbrev hk : PySem.W.Hook := He.hookX 4 fa fn [] tf ex
def ob (s : PySem.W.SharedT) : He.AlX := He.obsX 4 fa fn [] tf ex (HandSHeadRun.getT s)
theorem ob_eq (s : PySem.W.SharedT) : ob s = hk.obs s.abs := He.obsX_eq (HandSHeadRun.getT_eq s)
def loose_0 : List Str := ["WheelError", "TooGreat", "NotWithin", "is_whole", "MOST_ELEMENTS", "size_of", "is_element", "elements_of", "plus", "times_element", "nought", "exponent_of", "is_named", "made_by", "is_within", "groups_within", "need_within", "stuck_at", "beside_group", "split_paper", "check_split", "splits_off", "parts_of", "_law_is_integer", "_law_pool", "_law_spread", "_law_draw", "_law_pick", "_law_bent", "_law_falling"]
def loose_1 : List Str := ["_law_wheels_with", "_law_wheels", "_law_all", "_law_sum", "_law_times", "_law_made", "_law_group", "_law_right"]
def loose : List Str := loose_0 ++ loose_1
set_option maxHeartbeats 0 in
theorem run (w : World) : HandSHeadRun.RunEq R (PySem.W.view R.prog [45]) hk ob 4000 loose w := by
  intro os
  kernel_rfl
theorem facts {P : Program} {w : World} {K : PySem.W.Frag} {h : Heap} {mg : Str → Option Value} {f : Addr} (X : K.In h) (G : h.Ns mainGlobals mg) (hfa : mg ("law" : Str) = some (.ref f)) (cx : He.SaysX fa fn [] tf ex w h K) :
    ∃ fd : FuncData, (∀ (s : Shared) (v : Value), BindsTo s fd ⟨[v], []⟩ [("script", v)]) ∧ ∀ base : Heap, K.In base → base.Ns mainGlobals mg → (∀ p ∈ tf.map (He.cT K), LamX.TabB base mg p.1 p.2) → FnOkG (tf.map (He.cT K)) P w K mg base CX0 14 f fd ["script"] (spKv K M_law) := by
  have c := cx.t.d
  obtain ⟨fd__law_pool, G__law_pool⟩ := c.def_ 0 (d := d__law_pool) rfl
  have F__law_pool : FnP K "_law_pool" s__law_pool _ fd__law_pool := G__law_pool
  clear G__law_pool
  obtain ⟨fd__law_spread, G__law_spread⟩ := c.def_ 1 (d := d__law_spread) rfl
  have F__law_spread : FnP K "_law_spread" s__law_spread _ fd__law_spread := G__law_spread
  clear G__law_spread
  obtain ⟨fd__law_draw, G__law_draw⟩ := c.def_ 2 (d := d__law_draw) rfl
  have F__law_draw : FnP K "_law_draw" s__law_draw _ fd__law_draw := G__law_draw
  clear G__law_draw
  obtain ⟨fd__law_pick, G__law_pick⟩ := c.def_ 3 (d := d__law_pick) rfl
  have F__law_pick : FnP K "_law_pick" s__law_pick _ fd__law_pick := G__law_pick
  clear G__law_pick
  obtain ⟨fd__law_falling, G__law_falling⟩ := c.def_ 4 (d := d__law_falling) rfl
  have F__law_falling : FnP K "_law_falling" s__law_falling _ fd__law_falling := G__law_falling
  clear G__law_falling
  obtain ⟨fd__law_wheels_with, G__law_wheels_with⟩ := c.def_ 5 (d := d__law_wheels_with) rfl
  have F__law_wheels_with : FnP K "_law_wheels_with" s__law_wheels_with _ fd__law_wheels_with := G__law_wheels_with
  clear G__law_wheels_with
  obtain ⟨fd__law_wheels, G__law_wheels⟩ := c.def_ 6 (d := d__law_wheels) rfl
  have F__law_wheels : FnP K "_law_wheels" s__law_wheels _ fd__law_wheels := G__law_wheels
  clear G__law_wheels
  obtain ⟨fd__law_all, G__law_all⟩ := c.def_ 7 (d := d__law_all) rfl
  have F__law_all : FnP K "_law_all" s__law_all _ fd__law_all := G__law_all
  clear G__law_all
  obtain ⟨fd__law_sum, G__law_sum⟩ := c.def_ 8 (d := d__law_sum) rfl
  have F__law_sum : FnP K "_law_sum" s__law_sum _ fd__law_sum := G__law_sum
  clear G__law_sum
  obtain ⟨fd__law_made, G__law_made⟩ := c.def_ 9 (d := d__law_made) rfl
  have F__law_made : FnP K "_law_made" s__law_made _ fd__law_made := G__law_made
  clear G__law_made
  obtain ⟨fd__law_group, G__law_group⟩ := c.def_ 10 (d := d__law_group) rfl
  have F__law_group : FnP K "_law_group" s__law_group _ fd__law_group := G__law_group
  clear G__law_group
  obtain ⟨fd_size_of, G_size_of⟩ := c.def_ 11 (d := d_size_of) rfl
  have F_size_of : FnP K "size_of" s_size_of _ fd_size_of := G_size_of
  clear G_size_of
  obtain ⟨fd_elements_of, G_elements_of⟩ := c.def_ 12 (d := d_elements_of) rfl
  have F_elements_of : FnP K "elements_of" s_elements_of _ fd_elements_of := G_elements_of
  clear G_elements_of
  obtain ⟨fd_nought, G_nought⟩ := c.def_ 13 (d := d_nought) rfl
  have F_nought : FnP K "nought" s_nought _ fd_nought := G_nought
  clear G_nought
  obtain ⟨fd_plus, G_plus⟩ := c.def_ 14 (d := d_plus) rfl
  have F_plus : FnP K "plus" s_plus _ fd_plus := G_plus
  clear G_plus
  obtain ⟨fd_made_by, G_made_by⟩ := c.def_ 15 (d := d_made_by) rfl
  have F_made_by : FnP K "made_by" s_made_by _ fd_made_by := G_made_by
  clear G_made_by
  obtain ⟨fd_is_within, G_is_within⟩ := c.def_ 16 (d := d_is_within) rfl
  have F_is_within : FnP K "is_within" s_is_within _ fd_is_within := G_is_within
  clear G_is_within
  obtain ⟨fd_need_within, G_need_within⟩ := c.def_ 17 (d := d_need_within) rfl
  have F_need_within : FnP K "need_within" s_need_within _ fd_need_within := G_need_within
  clear G_need_within
  obtain ⟨fd_exponent_of, G_exponent_of⟩ := c.def_ 18 (d := d_exponent_of) rfl
  have F_exponent_of : FnP K "exponent_of" s_exponent_of _ fd_exponent_of := G_exponent_of
  clear G_exponent_of
  obtain ⟨fd_times_element, G_times_element⟩ := c.def_ 19 (d := d_times_element) rfl
  have F_times_element : FnP K "times_element" s_times_element _ fd_times_element := G_times_element
  clear G_times_element
  obtain ⟨fd_stuck_at, G_stuck_at⟩ := c.def_ 20 (d := d_stuck_at) rfl
  have F_stuck_at : FnP K "stuck_at" s_stuck_at _ fd_stuck_at := G_stuck_at
  clear G_stuck_at
  obtain ⟨fd_groups_within, G_groups_within⟩ := c.def_ 21 (d := d_groups_within) rfl
  have F_groups_within : FnP K "groups_within" s_groups_within _ fd_groups_within := G_groups_within
  clear G_groups_within
  obtain ⟨fd_beside_group, G_beside_group⟩ := c.def_ 22 (d := d_beside_group) rfl
  have F_beside_group : FnP K "beside_group" s_beside_group _ fd_beside_group := G_beside_group
  clear G_beside_group
  obtain ⟨fd_split_paper, G_split_paper⟩ := c.def_ 23 (d := d_split_paper) rfl
  have F_split_paper : FnP K "split_paper" s_split_paper _ fd_split_paper := G_split_paper
  clear G_split_paper
  obtain ⟨fd__law_is_integer, G__law_is_integer⟩ := c.def_ 24 (d := d__law_is_integer) rfl
  have F__law_is_integer : FnP K "_law_is_integer" s__law_is_integer _ fd__law_is_integer := G__law_is_integer
  clear G__law_is_integer
  obtain ⟨fd__law_times, G__law_times⟩ := c.def_ 25 (d := d__law_times) rfl
  have F__law_times : FnP K "_law_times" s__law_times _ fd__law_times := G__law_times
  clear G__law_times
  obtain ⟨fd__law_right, G__law_right⟩ := c.def_ 26 (d := d__law_right) rfl
  have F__law_right : FnP K "_law_right" s__law_right _ fd__law_right := G__law_right
  clear G__law_right
  obtain ⟨fd_splits_off, G_splits_off⟩ := c.def_ 27 (d := d_splits_off) rfl
  have F_splits_off : FnP K "splits_off" s_splits_off _ fd_splits_off := G_splits_off
  clear G_splits_off
  obtain ⟨fd__law_bent, G__law_bent⟩ := c.def_ 28 (d := d__law_bent) rfl
  have F__law_bent : FnP K "_law_bent" s__law_bent _ fd__law_bent := G__law_bent
  clear G__law_bent
  obtain ⟨fd_is_named, G_is_named⟩ := c.def_ 29 (d := d_is_named) rfl
  have F_is_named : FnP K "is_named" s_is_named _ fd_is_named := G_is_named
  clear G_is_named
  obtain ⟨fd_is_whole, G_is_whole⟩ := c.def_ 30 (d := d_is_whole) rfl
  have F_is_whole : FnP K "is_whole" s_is_whole _ fd_is_whole := G_is_whole
  clear G_is_whole
  obtain ⟨fd_is_element, G_is_element⟩ := c.def_ 31 (d := d_is_element) rfl
  have F_is_element : FnP K "is_element" s_is_element _ fd_is_element := G_is_element
  clear G_is_element
  obtain ⟨fd_check_split, G_check_split⟩ := c.def_ 32 (d := d_check_split) rfl
  have F_check_split : FnP K "check_split" s_check_split _ fd_check_split := G_check_split
  clear G_check_split
  obtain ⟨fd_parts_of, G_parts_of⟩ := c.def_ 33 (d := d_parts_of) rfl
  have F_parts_of : FnP K "parts_of" s_parts_of _ fd_parts_of := G_parts_of
  clear G_parts_of
  obtain ⟨fd_law, G_law⟩ := c.def_ 34 (d := d_law) rfl
  have F_law : FnP K "law" s_law _ fd_law := G_law
  clear G_law
  have g__law_pool := He.glo_ok X G (c.fact 0 (f := .glo "_law_pool") rfl)
  have g__law_spread := He.glo_ok X G (c.fact 1 (f := .glo "_law_spread") rfl)
  have g__law_draw := He.glo_ok X G (c.fact 2 (f := .glo "_law_draw") rfl)
  have g__law_pick := He.glo_ok X G (c.fact 3 (f := .glo "_law_pick") rfl)
  have g__law_falling := He.glo_ok X G (c.fact 4 (f := .glo "_law_falling") rfl)
  have g__law_wheels_with := He.glo_ok X G (c.fact 5 (f := .glo "_law_wheels_with") rfl)
  have g__law_wheels := He.glo_ok X G (c.fact 6 (f := .glo "_law_wheels") rfl)
  have g__law_all := He.glo_ok X G (c.fact 7 (f := .glo "_law_all") rfl)
  have g__law_sum := He.glo_ok X G (c.fact 8 (f := .glo "_law_sum") rfl)
  have g__law_made := He.glo_ok X G (c.fact 9 (f := .glo "_law_made") rfl)
  have g__law_group := He.glo_ok X G (c.fact 10 (f := .glo "_law_group") rfl)
  have g_size_of := He.glo_ok X G (c.fact 11 (f := .glo "size_of") rfl)
  have g_elements_of := He.glo_ok X G (c.fact 12 (f := .glo "elements_of") rfl)
  have g_nought := He.glo_ok X G (c.fact 13 (f := .glo "nought") rfl)
  have g_plus := He.glo_ok X G (c.fact 14 (f := .glo "plus") rfl)
  have g_made_by := He.glo_ok X G (c.fact 15 (f := .glo "made_by") rfl)
  have g_is_within := He.glo_ok X G (c.fact 16 (f := .glo "is_within") rfl)
  have g_need_within := He.glo_ok X G (c.fact 17 (f := .glo "need_within") rfl)
  have g_exponent_of := He.glo_ok X G (c.fact 18 (f := .glo "exponent_of") rfl)
  have g_times_element := He.glo_ok X G (c.fact 19 (f := .glo "times_element") rfl)
  have g_stuck_at := He.glo_ok X G (c.fact 20 (f := .glo "stuck_at") rfl)
  have g_groups_within := He.glo_ok X G (c.fact 21 (f := .glo "groups_within") rfl)
  have g_beside_group := He.glo_ok X G (c.fact 22 (f := .glo "beside_group") rfl)
  have g_split_paper := He.glo_ok X G (c.fact 23 (f := .glo "split_paper") rfl)
  have g__law_is_integer := He.glo_ok X G (c.fact 24 (f := .glo "_law_is_integer") rfl)
  have g__law_times := He.glo_ok X G (c.fact 25 (f := .glo "_law_times") rfl)
  have g__law_right := He.glo_ok X G (c.fact 26 (f := .glo "_law_right") rfl)
  have g_splits_off := He.glo_ok X G (c.fact 27 (f := .glo "splits_off") rfl)
  have g__law_bent := He.glo_ok X G (c.fact 28 (f := .glo "_law_bent") rfl)
  have g_is_named := He.glo_ok X G (c.fact 29 (f := .glo "is_named") rfl)
  have g_is_whole := He.glo_ok X G (c.fact 30 (f := .glo "is_whole") rfl)
  have g_is_element := He.glo_ok X G (c.fact 31 (f := .glo "is_element") rfl)
  have g_check_split := He.glo_ok X G (c.fact 32 (f := .glo "check_split") rfl)
  have g_parts_of := He.glo_ok X G (c.fact 33 (f := .glo "parts_of") rfl)
  have e := hfa.symm.trans (He.glo_ok X G (c.fact 34 (f := .glo "law") rfl))
  cases e
  have hm_all := He.free_ok X G (c.fact 35 (f := .free "all") rfl)
  have hm_bool := He.free_ok X G (c.fact 36 (f := .free "bool") rfl)
  have hm_int := He.free_ok X G (c.fact 37 (f := .free "int") rfl)
  have hm_isinstance := He.free_ok X G (c.fact 38 (f := .free "isinstance") rfl)
  have hm_len := He.free_ok X G (c.fact 39 (f := .free "len") rfl)
  have hm_list := He.free_ok X G (c.fact 40 (f := .free "list") rfl)
  have hm_max := He.free_ok X G (c.fact 41 (f := .free "max") rfl)
  have hm_min := He.free_ok X G (c.fact 42 (f := .free "min") rfl)
  have hm_range := He.free_ok X G (c.fact 43 (f := .free "range") rfl)
  have hm_repr := He.free_ok X G (c.fact 44 (f := .free "repr") rfl)
  have hm_set := He.free_ok X G (c.fact 45 (f := .free "set") rfl)
  have hm_sorted := He.free_ok X G (c.fact 46 (f := .free "sorted") rfl)
  have hm_str := He.free_ok X G (c.fact 47 (f := .free "str") rfl)
  have hm_tuple := He.free_ok X G (c.fact 48 (f := .free "tuple") rfl)
  have hm_zip := He.free_ok X G (c.fact 49 (f := .free "zip") rfl)
  obtain ⟨t_MOST_ELEMENTS, hk_MOST_ELEMENTS⟩ := He.int_ok X G (c.fact 50 (f := .int "MOST_ELEMENTS" 200) rfl)
  have b__law_pool : Binds K fd__law_pool ["script"] [] := F__law_pool.bindsN fun _ _ _ _ _ _ us hl => match us, hl with | [_], _ => rfl
  have b__law_spread : Binds K fd__law_spread ["cell"] [] := F__law_spread.bindsN fun _ _ _ _ _ _ us hl => match us, hl with | [_], _ => rfl
  have b__law_draw : Binds K fd__law_draw ["pool", "many"] [] := F__law_draw.bindsN fun _ _ _ _ _ _ us hl => match us, hl with | [_, _], _ => rfl
  have b__law_pick : Binds K fd__law_pick ["pool", "items"] [] := F__law_pick.bindsN fun _ _ _ _ _ _ us hl => match us, hl with | [_, _], _ => rfl
  have b__law_falling : Binds K fd__law_falling ["n", "most"] [] := F__law_falling.bindsN fun _ _ _ _ _ _ us hl => match us, hl with | [_, _], _ => rfl
  have b__law_wheels_with : Binds K fd__law_wheels_with ["n"] [] := F__law_wheels_with.bindsN fun _ _ _ _ _ _ us hl => match us, hl with | [_], _ => rfl
  have b__law_wheels : Binds K fd__law_wheels ["pool", "most"] [] := F__law_wheels.bindsN fun _ _ _ _ _ _ us hl => match us, hl with | [_, _], _ => rfl
  have b__law_all : Binds K fd__law_all ["wheels"] [] := F__law_all.bindsN fun _ _ _ _ _ _ us hl => match us, hl with | [_], _ => rfl
  have b__law_sum : Binds K fd__law_sum ["wheels", "one", "two"] [] := F__law_sum.bindsN fun _ _ _ _ _ _ us hl => match us, hl with | [_, _, _], _ => rfl
  have b__law_made : Binds K fd__law_made ["wheels", "items"] [] := F__law_made.bindsN fun _ _ _ _ _ _ us hl => match us, hl with | [_, _], _ => rfl
  have b__law_group : Binds K fd__law_group ["pool", "wheels"] [] := F__law_group.bindsN fun _ _ _ _ _ _ us hl => match us, hl with | [_, _], _ => rfl
  have b_size_of : Binds K fd_size_of ["wheels"] [] := F_size_of.bindsN fun _ _ _ _ _ _ us hl => match us, hl with | [_], _ => rfl
  have b_elements_of : Binds K fd_elements_of ["wheels"] [] := F_elements_of.bindsN fun _ _ _ _ _ _ us hl => match us, hl with | [_], _ => rfl
  have b_nought : Binds K fd_nought ["wheels"] [] := F_nought.bindsN fun _ _ _ _ _ _ us hl => match us, hl with | [_], _ => rfl
  have b_plus : Binds K fd_plus ["wheels", "one", "two"] [] := F_plus.bindsN fun _ _ _ _ _ _ us hl => match us, hl with | [_, _, _], _ => rfl
  have b_made_by : Binds K fd_made_by ["wheels", "items"] [] := F_made_by.bindsN fun _ _ _ _ _ _ us hl => match us, hl with | [_, _], _ => rfl
  have b_is_within : Binds K fd_is_within ["wheels", "value"] [] := F_is_within.bindsN fun _ _ _ _ _ _ us hl => match us, hl with | [_, _], _ => rfl
  have b_need_within : Binds K fd_need_within ["wheels", "group"] [] := F_need_within.bindsN fun _ _ _ _ _ _ us hl => match us, hl with | [_, _], _ => rfl
  have b_exponent_of : Binds K fd_exponent_of ["wheels"] [] := F_exponent_of.bindsN fun _ _ _ _ _ _ us hl => match us, hl with | [_], _ => rfl
  have b_times_element : Binds K fd_times_element ["wheels", "k", "one"] [] := F_times_element.bindsN fun _ _ _ _ _ _ us hl => match us, hl with | [_, _, _], _ => rfl
  have b_stuck_at : Binds K fd_stuck_at ["wheels", "group", "m"] [] := F_stuck_at.bindsN fun _ _ _ _ _ _ us hl => match us, hl with | [_, _, _], _ => rfl
  have b_groups_within : Binds K fd_groups_within ["wheels"] [] := F_groups_within.bindsN fun _ _ _ _ _ _ us hl => match us, hl with | [_], _ => rfl
  have b_beside_group : Binds K fd_beside_group ["wheels", "group"] [] := F_beside_group.bindsN fun _ _ _ _ _ _ us hl => match us, hl with | [_, _], _ => rfl
  have b_split_paper : Binds K fd_split_paper ["wheels", "group"] [] := F_split_paper.bindsN fun _ _ _ _ _ _ us hl => match us, hl with | [_, _], _ => rfl
  have b__law_is_integer : Binds K fd__law_is_integer ["actual"] [] := F__law_is_integer.bindsN fun _ _ _ _ _ _ us hl => match us, hl with | [_], _ => rfl
  have b__law_times : Binds K fd__law_times ["wheels", "k", "one"] [] := F__law_times.bindsN fun _ _ _ _ _ _ us hl => match us, hl with | [_, _, _], _ => rfl
  have b__law_right : Binds K fd__law_right ["wheels", "group", "value"] [] := F__law_right.bindsN fun _ _ _ _ _ _ us hl => match us, hl with | [_, _, _], _ => rfl
  have b_splits_off : Binds K fd_splits_off ["wheels", "group"] [] := F_splits_off.bindsN fun _ _ _ _ _ _ us hl => match us, hl with | [_, _], _ => rfl
  have b__law_bent : Binds K fd__law_bent ["pool", "value"] [] := F__law_bent.bindsN fun _ _ _ _ _ _ us hl => match us, hl with | [_, _], _ => rfl
  have b_is_named : Binds K fd_is_named ["value", "name", "many"] [] := F_is_named.bindsN fun _ _ _ _ _ _ us hl => match us, hl with | [_, _, _], _ => rfl
  have b_is_whole : Binds K fd_is_whole ["value"] [] := F_is_whole.bindsN fun _ _ _ _ _ _ us hl => match us, hl with | [_], _ => rfl
  have b_is_element : Binds K fd_is_element ["wheels", "value"] [] := F_is_element.bindsN fun _ _ _ _ _ _ us hl => match us, hl with | [_, _], _ => rfl
  have b_check_split : Binds K fd_check_split ["wheels", "group", "value"] [] := F_check_split.bindsN fun _ _ _ _ _ _ us hl => match us, hl with | [_, _, _], _ => rfl
  have b_parts_of : Binds K fd_parts_of ["wheels", "one", "two", "element"] [] := F_parts_of.bindsN fun _ _ _ _ _ _ us hl => match us, hl with | [_, _, _, _], _ => rfl
  have b_law := FunD.bindsA (ps := ["script"]) F_law fun _ _ _ _ _ _ us hl => match us, hl with | [_], _ => rfl
  refine ⟨fd_law, fun s v => b_law s [v] rfl, fun base _ _ hTB => ?_⟩
  have c__law_pool : CalG [] P w K mg base 1 "_law_pool" (spK K M__law_pool) [] := cal_of F__law_pool (o__law_pool F__law_pool hm_int hm_list) g__law_pool b__law_pool
  have c__law_spread : CalG [] P w K mg base 1 "_law_spread" (spF 1 M__law_spread) [] := cal_of F__law_spread (o__law_spread F__law_spread hm_int hm_range) g__law_spread b__law_spread
  have c__law_draw : CalG [] P w K mg base 2 "_law_draw" (spP 2 M__law_draw) [] := cal_of F__law_draw (o__law_draw F__law_draw c__law_spread hm_int hm_len) g__law_draw b__law_draw
  have c__law_pick : CalG [] P w K mg base 3 "_law_pick" (spP 2 M__law_pick) [] := cal_of F__law_pick (o__law_pick F__law_pick c__law_draw hm_len) g__law_pick b__law_pick
  have c__law_falling : CalG [] P w K mg base 11 "_law_falling" (spF 2 (M__law_falling 10)) [] := cal_of F__law_falling (o__law_falling F__law_falling hm_min hm_range g__law_falling b__law_falling 10) g__law_falling b__law_falling
  have c__law_wheels_with : CalG [] P w K mg base 12 "_law_wheels_with" (spF 1 M__law_wheels_with) [] := cal_of F__law_wheels_with (o__law_wheels_with F__law_wheels_with c__law_falling hm_int hm_len hm_max hm_range hm_sorted hm_tuple) g__law_wheels_with b__law_wheels_with
  have c__law_wheels : CalG [] P w K mg base 13 "_law_wheels" (spP 2 M__law_wheels) [] := cal_of F__law_wheels (o__law_wheels F__law_wheels c__law_pick c__law_wheels_with c__law_draw) g__law_wheels b__law_wheels
  have c__law_all : CalG [] P w K mg base 1 "_law_all" (spF 1 M__law_all) [] := cal_of F__law_all (o__law_all F__law_all hm_range) g__law_all b__law_all
  have c__law_sum : CalG [] P w K mg base 1 "_law_sum" (spF 3 M__law_sum) [] := cal_of F__law_sum (o__law_sum F__law_sum hm_int hm_tuple hm_zip) g__law_sum b__law_sum
  have c__law_made : CalG [] P w K mg base 2 "_law_made" (spF 2 M__law_made) [] := cal_of F__law_made (o__law_made F__law_made c__law_sum hm_len hm_set hm_sorted hm_tuple) g__law_made b__law_made
  have c__law_group : CalG [] P w K mg base 4 "_law_group" (spP 2 M__law_group) [] := cal_of F__law_group (o__law_group F__law_group c__law_all c__law_made c__law_draw c__law_pick hm_range) g__law_group b__law_group
  have c_size_of : CalG [] P w K mg base 1 "size_of" (spF 1 M_size_of) [] := cal_of F_size_of (o_size_of F_size_of) g_size_of b_size_of
  have c_elements_of : CalG [] P w K mg base 2 "elements_of" (spF 1 M_elements_of) [] := cal_of F_elements_of (o_elements_of F_elements_of c_size_of hm_range hk_MOST_ELEMENTS) g_elements_of b_elements_of
  have c_nought : CalG [] P w K mg base 1 "nought" (spF 1 M_nought) [] := cal_of F_nought (o_nought F_nought hm_len) g_nought b_nought
  have c_plus : CalG [] P w K mg base 1 "plus" (spF 3 M_plus) [] := cal_of F_plus (o_plus F_plus hm_tuple hm_zip) g_plus b_plus
  have c_made_by : CalG [] P w K mg base 2 "made_by" (spF 2 M_made_by) [] := cal_of F_made_by (o_made_by F_made_by c_nought c_plus hm_len hm_sorted hm_tuple) g_made_by b_made_by
  have c_is_within : CalG [] P w K mg base 3 "is_within" (spF 2 M_is_within) [] := cal_of F_is_within (o_is_within F_is_within c_elements_of c_made_by hm_all hm_isinstance hm_len hm_list hm_repr hm_set hm_sorted hm_tuple) g_is_within b_is_within
  have c_need_within : CalG [] P w K mg base 4 "need_within" (spF 2 M_need_within) [] := cal_of F_need_within (o_need_within F_need_within c_is_within) g_need_within b_need_within
  have c_exponent_of : CalG [] P w K mg base 1 "exponent_of" (spF 1 M_exponent_of) [] := cal_of F_exponent_of (o_exponent_of F_exponent_of hm_len) g_exponent_of b_exponent_of
  have c_times_element : CalG [] P w K mg base 1 "times_element" (spF 3 M_times_element) [] := cal_of F_times_element (o_times_element F_times_element hm_tuple hm_zip) g_times_element b_times_element
  have c_stuck_at : CalG [] P w K mg base 3 "stuck_at" (spF 3 M_stuck_at) [] := cal_of F_stuck_at (o_stuck_at F_stuck_at c_times_element c_elements_of) g_stuck_at b_stuck_at
  have c_groups_within : CalG (tf.map (He.cT K)) P w K mg base 3 "groups_within" (spF 1 M_groups_within) [] := cal_of F_groups_within (o_groups_within F_groups_within (show _ ∈ tf.map (He.cT K) from List.mem_map.mpr ⟨_, List.mem_cons_self, rfl⟩) (hTB _ (List.mem_map.mpr ⟨_, List.mem_cons_self, rfl⟩)) (fun p fd' c h1 h2 h3 => by obtain ⟨oc, od, dt, osl⟩ := p; obtain rfl : dt = .func fd' := h2; exact (He.codeOf_eq h1 h3).symm) c_nought c_elements_of c_made_by hm_len hm_list hm_sorted) g_groups_within b_groups_within
  have c_beside_group : CalG (tf.map (He.cT K)) P w K mg base 4 "beside_group" (spF 2 M_beside_group) [] := cal_of F_beside_group (o_beside_group F_beside_group c_elements_of c_groups_within hm_len) g_beside_group b_beside_group
  have c_split_paper : CalG (tf.map (He.cT K)) P w K mg base 5 "split_paper" (spF 2 M_split_paper) [] := cal_of F_split_paper (o_split_paper F_split_paper c_need_within c_exponent_of c_stuck_at c_beside_group hm_range) g_split_paper b_split_paper
  have c__law_is_integer : CalG [] P w K mg base 1 "_law_is_integer" (spF 1 M__law_is_integer) [] := cal_of F__law_is_integer (o__law_is_integer F__law_is_integer hm_bool hm_int hm_isinstance) g__law_is_integer b__law_is_integer
  have c__law_times : CalG [] P w K mg base 1 "_law_times" (spF 3 M__law_times) [] := cal_of F__law_times (o__law_times F__law_times hm_int hm_tuple hm_zip) g__law_times b__law_times
  have c__law_right : CalG [] P w K mg base 3 "_law_right" (spF 3 M__law_right) [] := cal_of F__law_right (o__law_right F__law_right c__law_all c__law_made c__law_is_integer c__law_times hm_isinstance hm_len hm_repr hm_str hm_tuple) g__law_right b__law_right
  have c_splits_off : CalG (tf.map (He.cT K)) P w K mg base 6 "splits_off" (spF 2 M_splits_off) [] := cal_of F_splits_off (o_splits_off F_splits_off c_split_paper) g_splits_off b_splits_off
  have c__law_bent : CalG [] P w K mg base 11 "_law_bent" (spP 2 (M__law_bent 8)) [] := cal_of F__law_bent (o__law_bent F__law_bent c__law_draw c__law_is_integer hm_isinstance hm_len hm_list hm_str hm_tuple g__law_bent b__law_bent 8) g__law_bent b__law_bent
  have c_is_named : CalG [] P w K mg base 1 "is_named" (spF 3 M_is_named) [] := cal_of F_is_named (o_is_named F_is_named hm_isinstance hm_len hm_str hm_tuple) g_is_named b_is_named
  have c_is_whole : CalG [] P w K mg base 1 "is_whole" (spF 1 M_is_whole) [] := cal_of F_is_whole (o_is_whole F_is_whole hm_bool hm_int hm_isinstance) g_is_whole b_is_whole
  have c_is_element : CalG [] P w K mg base 2 "is_element" (spF 2 M_is_element) [] := cal_of F_is_element (o_is_element F_is_element c_is_whole hm_all hm_isinstance hm_len hm_tuple hm_zip) g_is_element b_is_element
  have c_check_split : CalG [] P w K mg base 5 "check_split" (spF 3 M_check_split) [] := cal_of F_check_split (o_check_split F_check_split c_need_within c_is_named c_is_within c_elements_of c_is_whole c_is_element c_times_element hm_len) g_check_split b_check_split
  have c_parts_of : CalG [] P w K mg base 2 "parts_of" (spF 4 M_parts_of) [] := cal_of F_parts_of (o_parts_of F_parts_of c_plus c_nought) g_parts_of b_parts_of
  exact o_law (cs := tf.map (He.cT K)) (P := P) (w := w) (base := base) F_law c__law_pool c__law_wheels c__law_all c__law_group c_split_paper c__law_right c_splits_off c__law_bent c_check_split c_stuck_at c_beside_group c__law_pick c_parts_of c__law_sum c__law_times hm_len hm_list hm_range hm_repr hm_tuple
/-! ### mathematics that all laws share -/
section
theorem lg {n k : Nat} (h : n < 2 ^ k) (hk : 0 < k) : n.log2 < k := by
  by_cases h0 : n = 0
  · subst h0; simpa using hk
  · exact (Nat.log2_lt h0).mpr h
theorem pmul_b {i j : Int} (a b : Nat) (h1 : i.natAbs < 2 ^ a) (h2 : j.natAbs < 2 ^ b) (h : a + b ≤ 1000000 := by decide) (ha : 0 < a := by decide) (hb : 0 < b := by decide) : pmul i j = some (i * j) := by
  unfold pmul
  have l1 := lg h1 ha
  have l2 := lg h2 hb
  rw [if_pos (by omega)]
theorem pmod_p {i j : Int} (h : 0 < j) : pmod i j = some (i % j) := by
  unfold pmod
  rw [if_pos (by omega), Int.fmod_eq_emod_of_nonneg _ (by omega)]
theorem pdiv_p {i j : Int} (h : 0 < j) (b : Nat) (h2 : j.natAbs < 2 ^ b) (hb : b ≤ 9000 := by decide) (hb0 : 0 < b := by decide) : pdiv i j = some (i / j) := by
  unfold pdiv
  have l := lg h2 hb0
  rw [if_pos ⟨by omega, by omega⟩, Int.fdiv_eq_ediv_of_nonneg _ (by omega)]
theorem rng_ok {lo hi : Int} (h1 : -8388608 ≤ lo) (h2 : lo ≤ 8388608) (h3 : -8388608 ≤ hi) (h4 : hi ≤ 8388608) : rng lo hi = some (irange lo hi) := if_pos ⟨h1, h2, h3, h4⟩
theorem idx_nat {α : Type} {xs : List α} {i : Int} (h0 : 0 ≤ i) (h : i < xs.length) : idx xs i = some (xs[i.toNat]'(by omega)) := by
  unfold idx atI ixN
  have : i.toNat < xs.length := by omega
  rw [if_pos h0, if_pos h]
  show xs[i.toNat]? = _
  rw [List.getElem?_eq_getElem this]
theorem szOk_ok {n : Nat} (h : n ≤ 16777216) : szOk n = some () := if_pos (by rw [PySem.sizeLine_eq]; exact h)
theorem szL_ok {α : Type} {xs : List α} (h : xs.length ≤ 16777216) : szL xs = some () := szOk_ok h
theorem mem_irange {lo hi k : Int} : k ∈ irange lo hi ↔ lo ≤ k ∧ k < hi := by
  unfold irange
  simp only [List.mem_map, List.mem_range]
  constructor
  · rintro ⟨m, hm, rfl⟩; omega
  · rintro ⟨h1, h2⟩; exact ⟨(k - lo).toNat, by omega, by omega⟩
theorem forF_inv {α S : Type} {f : α → S → Option S} {I : S → Prop} : ∀ {xs : List α} {s : S}, I s → (∀ x ∈ xs, ∀ s, I s → ∃ s', f x s = some s' ∧ I s') → ∃ s', forF f xs s = some s' ∧ I s'
  | [], s, h, _ => ⟨s, rfl, h⟩
  | x :: xs, s, h, hf => by
    obtain ⟨s', h1, h2⟩ := hf x (by simp) s h
    obtain ⟨s'', h3, h4⟩ := forF_inv (xs := xs) h2 fun y hy => hf y (by simp [hy])
    exact ⟨s'', by unfold forF; rw [h1]; exact h3, h4⟩
theorem lcF_none {α β : Type} {f : α → Option (Option β)} : ∀ {xs : List α}, (∀ x ∈ xs, f x = some none) → lcF f xs = some []
  | [], _ => rfl
  | x :: xs, h => by
    unfold lcF
    rw [h x (by simp), lcF_none fun y hy => h y (by simp [hy])]
    rfl
theorem lcF_all {α β : Type} {f : α → Option (Option β)} {g : α → β} : ∀ {xs : List α}, (∀ x ∈ xs, f x = some (some (g x))) → lcF f xs = some (xs.map g)
  | [], _ => rfl
  | x :: xs, h => by
    unfold lcF
    rw [h x (by simp), lcF_all fun y hy => h y (by simp [hy])]
    rfl
theorem lcF_some {α β : Type} {f : α → Option (Option β)} : ∀ {xs : List α}, (∀ x ∈ xs, (f x).isSome) → ∃ ys, lcF f xs = some ys ∧ ys.length ≤ xs.length
  | [], _ => ⟨[], rfl, Nat.le_refl _⟩
  | x :: xs, h => by
    obtain ⟨o, ho⟩ := Option.isSome_iff_exists.mp (h x (by simp))
    obtain ⟨ys, hy, hl⟩ := lcF_some (xs := xs) fun y hy => h y (by simp [hy])
    refine ⟨o.toList ++ ys, by unfold lcF; rw [ho, hy], ?_⟩
    cases o <;> simp <;> omega
/-! ### the pool of draws -/
structure PW (n : Nat) (p : Pool) : Prop where
  a0 : 0 ≤ p.at_
  t0 : 0 ≤ p.turn
  t1 : p.turn ≤ n
  s0 : 0 ≤ p.salt
  s1 : p.salt < 1000003
theorem pool_ok (ns : List Int) : ∃ p, m__law_pool ns = some p ∧ PW 0 p := by
  unfold m__law_pool
  have key : ∃ s', forF (fun (x2 : Int) (s1 : Int) => (pmul s1 (31 : Int)).bind fun n4 => (pmod (n4 + x2) (1000003 : Int)).bind fun n5 => some (n5)) (cut ns none (some (63 : Int))) (7 : Int) = some s' ∧ (0 ≤ s' ∧ s' < 1000003) :=
    forF_inv (by omega) fun x _ s hs => by
      refine ⟨(s * 31 + x) % 1000003, ?_, Int.emod_nonneg _ (by decide : (1000003 : Int) ≠ 0), Int.emod_lt_of_pos _ (by decide : (0 : Int) < 1000003)⟩
      rw [pmul_b 21 5 (by omega) (by decide), Option.bind_some, pmod_p (by decide), Option.bind_some]
  obtain ⟨s', h1, h2, h3⟩ := key
  exact ⟨_, by rw [h1]; rfl, Int.le_refl _, Int.le_refl _, Int.le_refl _, h2, h3⟩
theorem spread_ok (c : Int) : ∃ v, m__law_spread c = some v := by
  unfold m__law_spread
  rw [pmod_p (by decide), Option.bind_some, rng_ok (by decide) (by decide) (by decide) (by decide), Option.bind_some]
  have e : irange 0 4 = [0, 1, 2, 3] := by decide
  rw [e]
  have step : ∀ (x : Int), 0 ≤ x → x ≤ 3 → ∀ (k : Nat) (s : Int × Int), 31 ≤ k → k ≤ 1000 → (0 ≤ s.1 ∧ s.1 < 2147483647 ∧ s.2.natAbs < 2 ^ k) →
      ∃ s', ((pmul s.1 (48271 : Int)).bind fun n16 => (pmod ((n16 + (12345 : Int)) + x) (2147483647 : Int)).bind fun n17 => (pmul s.2 (2147483647 : Int)).bind fun n19 => some (n17, (n19 + n17))) = some s' ∧ (0 ≤ s'.1 ∧ s'.1 < 2147483647 ∧ s'.2.natAbs < 2 ^ (k + 32)) := by
    intro x hx hx3 k s hk hk2 ⟨h1, h2, h3⟩
    have m1 := Int.emod_nonneg (s.1 * 48271 + 12345 + x) (by decide : (2147483647 : Int) ≠ 0)
    have m2 := Int.emod_lt_of_pos (s.1 * 48271 + 12345 + x) (by decide : (0 : Int) < 2147483647)
    refine ⟨((s.1 * 48271 + 12345 + x) % 2147483647, s.2 * 2147483647 + (s.1 * 48271 + 12345 + x) % 2147483647), ?_, m1, m2, ?_⟩
    · rw [pmul_b 31 16 (by omega) (by decide), Option.bind_some, pmod_p (by decide), Option.bind_some, pmul_b k 31 h3 (by decide) (by omega) (by omega), Option.bind_some]
    · show (s.2 * 2147483647 + (s.1 * 48271 + 12345 + x) % 2147483647).natAbs < 2 ^ (k + 32)
      have e1 : (s.2 * 2147483647).natAbs = s.2.natAbs * 2147483647 := Int.natAbs_mul _ _
      have e2 : (2 : Nat) ^ (k + 32) = 2 ^ k * 4294967296 := by rw [Nat.pow_add]
      have e3 : (2 : Nat) ^ 31 ≤ 2 ^ k := Nat.pow_le_pow_right (by decide) hk
      have e4 : (2 : Nat) ^ 31 = 2147483648 := by decide
      have e5 := Int.natAbs_add_le (s.2 * 2147483647) ((s.1 * 48271 + 12345 + x) % 2147483647)
      omega
  obtain ⟨s1, e1, h1⟩ := step 0 (by decide) (by decide) 31 (c % 2147483647, 1) (by decide) (by decide) ⟨Int.emod_nonneg _ (by decide), Int.emod_lt_of_pos _ (by decide), (by decide : (1 : Int).natAbs < 2 ^ 31)⟩
  obtain ⟨s2, e2, h2⟩ := step 1 (by decide) (by decide) 63 s1 (by decide) (by decide) h1
  obtain ⟨s3, e3, h3⟩ := step 2 (by decide) (by decide) 95 s2 (by decide) (by decide) h2
  obtain ⟨s4, e4, h4⟩ := step 3 (by decide) (by decide) 127 s3 (by decide) (by decide) h3
  refine ⟨s4.2, ?_⟩
  unfold forF
  rw [e1]; dsimp only
  unfold forF
  rw [e2]; dsimp only
  unfold forF
  rw [e3]; dsimp only
  unfold forF
  rw [e4]; dsimp only
  unfold forF
  rfl
theorem draw_ok {n : Nat} {p : Pool} {many : Int} (h : PW n p) (hn : n < 2 ^ 64) (hm : 0 < many) (hm2 : many < 2 ^ 64) : ∃ v p', m__law_draw p many = some (v, p') ∧ 0 ≤ v ∧ v < many ∧ PW (n + 1) p' := by
  unfold m__law_draw
  have first : ∀ U : Option Pool, (∃ q, U = some q ∧ PW n q) → ∃ v p', (U.bind fun (s24 : Pool) => bif (decide (({ s24 with turn := (s24.turn + (1 : Int)) }).cur ≤ (0 : Int))) then (pmul (({ s24 with turn := (s24.turn + (1 : Int)) }).salt) (48271 : Int)).bind fun n33 => (pmul (({ s24 with turn := (s24.turn + (1 : Int)) }).turn) (69621 : Int)).bind fun n34 => (pmod ((n33 + n34) + (1 : Int)) (2147483647 : Int)).bind fun n35 => (pmul n35 (16807 : Int)).bind fun n37 => (pmod (n37 + ({ s24 with turn := (s24.turn + (1 : Int)) }).turn) (2147483629 : Int)).bind fun n38 => (pdiv n38 (5 : Int)).bind fun n39 => (pmod n39 many).bind fun n40 => some (n40, { s24 with turn := (s24.turn + (1 : Int)) }) else (pmod (({ s24 with turn := (s24.turn + (1 : Int)) }).cur) many).bind fun n41 => (pdiv (({ s24 with turn := (s24.turn + (1 : Int)) }).cur) many).bind fun n42 => some (n41, { { s24 with turn := (s24.turn + (1 : Int)) } with cur := n42 })) = some (v, p') ∧ 0 ≤ v ∧ v < many ∧ PW (n + 1) p' := by
    rintro _ ⟨q, rfl, hq⟩
    obtain ⟨a0, t0, t1, s0, s1⟩ := hq
    rw [Option.bind_some]
    dsimp only
    have hw : PW (n + 1) { q with turn := q.turn + 1 } := ⟨a0, by show 0 ≤ q.turn + 1; omega, by show q.turn + 1 ≤ _; omega, s0, s1⟩
    cases hc : decide (q.cur ≤ 0) with
    | true =>
      have z1 := Int.emod_nonneg (q.salt * 48271 + (q.turn + 1) * 69621 + 1) (by decide : (2147483647 : Int) ≠ 0)
      have z2 := Int.emod_lt_of_pos (q.salt * 48271 + (q.turn + 1) * 69621 + 1) (by decide : (0 : Int) < 2147483647)
      refine ⟨((q.salt * 48271 + (q.turn + 1) * 69621 + 1) % 2147483647 * 16807 + (q.turn + 1)) % 2147483629 / 5 % many, { q with turn := q.turn + 1 }, ?_, Int.emod_nonneg _ (by omega), Int.emod_lt_of_pos _ hm, hw⟩
      rw [cond_true, pmul_b 21 16 (by omega) (by decide), Option.bind_some, pmul_b 66 17 (by omega) (by decide), Option.bind_some, pmod_p (by decide), Option.bind_some, pmul_b 31 15 (by omega) (by decide), Option.bind_some, pmod_p (by decide), Option.bind_some, pdiv_p (by decide) 3 (by decide), Option.bind_some, pmod_p hm, Option.bind_some]
    | false =>
      refine ⟨q.cur % many, { q with turn := q.turn + 1, cur := q.cur / many }, ?_, Int.emod_nonneg _ (by omega), Int.emod_lt_of_pos _ hm, ?_⟩
      · rw [cond_false, pmod_p hm, Option.bind_some, pdiv_p hm 64 (by omega), Option.bind_some]
      · exact ⟨a0, hw.t0, hw.t1, s0, s1⟩
  apply first
  cases hc : (decide (p.cur ≤ (0 : Int)) && decide (p.at_ < (p.cells.length : Int))) with
  | false => exact ⟨p, rfl, h⟩
  | true =>
    have hc2 := of_decide_eq_true (Bool.and_eq_true_iff.mp hc).2
    obtain ⟨cl, hcl⟩ : ∃ cl, idx p.cells p.at_ = some cl := ⟨_, idx_nat h.a0 hc2⟩
    rw [cond_true, hcl, Option.bind_some]
    have a1 : (0 : Int) ≤ p.at_ + 1 := by have := h.a0; omega
    cases hd : decide (cl < (1000000000000000000 : Int)) with
    | false => exact ⟨_, rfl, ⟨a1, h.t0, h.t1, h.s0, h.s1⟩⟩
    | true =>
      obtain ⟨v, hv⟩ := spread_ok cl
      rw [cond_true, hv]
      exact ⟨_, rfl, ⟨a1, h.t0, h.t1, h.s0, h.s1⟩⟩
theorem pick_ok {α : Type} {n : Nat} {p : Pool} {xs : List α} (h : PW n p) (hx : xs ≠ []) (hn : n < 2 ^ 64 := by decide) (hl : xs.length < 2 ^ 64 := by decide) : ∃ x p', m__law_pick p xs = some (x, p') ∧ x ∈ xs ∧ PW (n + 1) p' := by
  unfold m__law_pick
  have : 0 < xs.length := List.length_pos_iff.mpr hx
  obtain ⟨v, p', e, h0, h1, hp⟩ := draw_ok (many := (xs.length : Int)) h hn (by omega) (by omega)
  rw [e, Option.bind_some, idx_nat h0 h1, Option.bind_some]
  exact ⟨_, p', rfl, List.getElem_mem _, hp⟩
end

/-! ### the law's own comparison -/
section
theorem idx_get {α : Type} {xs : List α} {k : Int} (h : k ∈ irange 0 (xs.length : Int)) : ∃ x, x ∈ xs ∧ idx xs k = some x := by
  obtain ⟨h0, h1⟩ := mem_irange.mp h
  exact ⟨_, List.getElem_mem _, idx_nat h0 h1⟩
/-- data that the law's comparison can walk within n steps -/
def okD : Nat → D → Bool
  | 0, _ => false
  | _ + 1, .none => true
  | _ + 1, .bool _ => true
  | _ + 1, .int _ => true
  | _ + 1, .str s => SeqAt.shaped (.str s)
  | n + 1, .list ds => decide (ds.length ≤ 8388608) && ds.all (okD n)
  | n + 1, .tuple ds => decide (ds.length ≤ 8388608) && ds.all (okD n)
  | _ + 1, .dict _ => false
theorem okD_list {n : Nat} {ds : List D} (h1 : ds.length ≤ 8388608) (h2 : ∀ d ∈ ds, okD n d = true) : okD (n + 1) (.list ds) = true := by
  show (decide (ds.length ≤ 8388608) && ds.all (okD n)) = true
  rw [Bool.and_eq_true, List.all_eq_true]
  exact ⟨decide_eq_true h1, h2⟩
theorem okD_tuple {n : Nat} {ds : List D} (h1 : ds.length ≤ 8388608) (h2 : ∀ d ∈ ds, okD n d = true) : okD (n + 1) (.tuple ds) = true := okD_list h1 h2
theorem okD_int {n : Nat} {i : Int} : okD (n + 1) (.int i) = true := rfl
theorem okD_W {n : Nat} {w : List Int} (h : w.length ≤ 8388608) : okD (n + 2) (eT PyData.int w) = true := okD_tuple (by rw [List.length_map]; exact h) fun d hd => by
  obtain ⟨i, _, rfl⟩ := List.mem_map.mp hd; rfl
theorem okD_LI {n : Nat} {w : List Int} (h : w.length ≤ 8388608) : okD (n + 2) (eL PyData.int w) = true := okD_W (n := n) h
theorem okD_LW {n : Nat} {ws : List (List Int)} (h : ws.length ≤ 8388608) (h2 : ∀ w ∈ ws, w.length ≤ 8388608) : okD (n + 3) (eL (eT PyData.int) ws) = true := okD_list (by rw [List.length_map]; exact h) fun d hd => by
  obtain ⟨w, hw, rfl⟩ := List.mem_map.mp hd; exact okD_W (h2 w hw)
end
/-! ### finite checks -/
section
theorem bind_of {α β : Type} {x : Option α} {f : α → Option β} {b : β} (a : α) (h1 : x = some a) (h2 : f a = some b) : x.bind f = some b := by rw [h1]; exact h2
def ck (lo hi : Nat) (P : Nat → Bool) : Bool := (List.range' lo (hi - lo)).all P
theorem ck_at {lo hi n : Nat} {P : Nat → Bool} (h : ck lo hi P = true) (h1 : lo ≤ n) (h2 : n < hi) : P n = true :=
  List.all_eq_true.mp h n (by rw [List.mem_range'_1]; omega)
theorem ck_join {a b c : Nat} {P : Nat → Bool} (h1 : ck a b P = true) (h2 : ck b c P = true) : ck a c P = true :=
  List.all_eq_true.mpr fun n hn => by
    rw [List.mem_range'_1] at hn
    by_cases h : n < b
    · exact ck_at h1 hn.1 h
    · exact ck_at h2 (by omega) (by omega)
/-- what a check that matches on an optional value says -/
def onS {α : Type} (o : Option α) (P : α → Bool) : Bool := match o with
  | some a => P a
  | none => false
theorem onS_of {α : Type} {o : Option α} {P : α → Bool} (h : onS o P = true) : ∃ a, o = some a ∧ P a = true := by
  cases o with
  | none => cases h
  | some a => exact ⟨a, rfl, h⟩
theorem onS_and {α : Type} {o : Option α} {P : α → Bool} {a : α} (h : onS o P = true) (e : o = some a) : P a = true := by
  obtain ⟨b, h1, h2⟩ := onS_of h
  rw [e] at h1; cases h1; exact h2
def ckI (lo hi : Int) (P : Int → Bool) : Bool := ck 0 (hi - lo).toNat fun n => P (lo + (n : Int))
theorem ckI_at {lo hi v : Int} {P : Int → Bool} (h : ckI lo hi P = true) (h1 : lo ≤ v) (h2 : v < hi) : P v = true := by
  have := ck_at h (Nat.zero_le (v - lo).toNat) (by omega)
  have e : lo + (((v - lo).toNat : Nat) : Int) = v := by omega
  rw [e] at this
  exact this
/-- a check over the wheels of 1 + n elements -/
def onW (p : List Int → Bool) (n : Nat) : Bool := onS (m__law_wheels_with (1 + (n : Int))) fun ws => decide (ws ≠ [] ∧ ws.length ≤ 1000) && ws.all p
/-- w is among the wheels of at most m elements -/
def isW (m : Nat) (w : List Int) : Prop := ∃ (n : Nat) (ws : List (List Int)), n < m ∧ m__law_wheels_with (1 + (n : Int)) = some ws ∧ w ∈ ws
theorem isW_at {m : Nat} {w : List Int} {p : List Int → Bool} (hw : isW m w) (h : ck 0 m (onW p) = true) : p w = true := by
  obtain ⟨n, ws, hn, e, hm⟩ := hw
  have := onS_and (ck_at h (Nat.zero_le _) hn) e
  exact List.all_eq_true.mp (Bool.and_eq_true_iff.mp this).2 w hm
theorem isW_mono {m m' : Nat} {w : List Int} (hw : isW m w) (h : m ≤ m') : isW m' w := by
  obtain ⟨n, ws, hn, e, hm⟩ := hw
  exact ⟨n, ws, by omega, e, hm⟩
theorem wheels_ok {n m : Nat} {p : Pool} {q : List Int → Bool} (h : PW n p) (hq : ck 0 m (onW q) = true) (hn : n < 2 ^ 63 := by decide) (hm : 0 < m := by decide) (hm2 : m < 2 ^ 63 := by decide) : ∃ r, m__law_wheels p (m : Int) = some r ∧ isW m r.1 ∧ PW (n + 2) r.2 := by
  unfold m__law_wheels
  obtain ⟨v, p1, e1, v0, v1, h1⟩ := draw_ok (many := (m : Int)) h (by omega) (by omega) (by omega)
  obtain ⟨ws, e2, hws⟩ := onS_of (ck_at hq (Nat.zero_le v.toNat) (by omega))
  have hws := of_decide_eq_true (Bool.and_eq_true_iff.mp hws).1
  have ev : ((v.toNat : Nat) : Int) = v := by omega
  rw [ev] at e2
  obtain ⟨w, p2, e3, hm, h2⟩ := pick_ok (xs := ws) h1 hws.1 (by omega) (by omega)
  exact ⟨(w, p2), bind_of (v, p1) e1 (bind_of ws e2 (bind_of (w, p2) e3 rfl)), ⟨v.toNat, ws, by omega, by rw [ev]; exact e2, hm⟩, h2⟩
theorem lcP_ok {α β : Type} {f : α → Pool → Option (Option β × Pool)} {Q : β → Prop} : ∀ {xs : List α} {n : Nat} {p : Pool}, PW n p → (∀ x ∈ xs, ∀ k p, n ≤ k → k < n + xs.length → PW k p → ∃ y p', f x p = some (some y, p') ∧ Q y ∧ PW (k + 1) p') →
    ∃ ys p', lcP f xs p = some (ys, p') ∧ ys.length = xs.length ∧ (∀ y ∈ ys, Q y) ∧ PW (n + xs.length) p'
  | [], n, p, h, _ => ⟨[], p, rfl, rfl, fun _ h => absurd h (by simp), h⟩
  | x :: xs, n, p, h, hf => by
    obtain ⟨y, p1, e, hq, h1⟩ := hf x (by simp) n p (Nat.le_refl _) (by simp) h
    obtain ⟨ys, p2, e2, hl, hqs, h2⟩ := lcP_ok (xs := xs) h1 fun z hz k q hk hk2 hp => hf z (by simp [hz]) k q (by omega) (by simp; omega) hp
    refine ⟨y :: ys, p2, ?_, by simp [hl], ?_, ?_⟩
    · unfold lcP
      rw [e]; dsimp only; rw [e2]; rfl
    · intro z hz
      rcases List.mem_cons.mp hz with rfl | hz
      · exact hq
      · exact hqs z hz
    · have e3 : n + (x :: xs).length = n + 1 + xs.length := by simp; omega
      rw [e3]; exact h2
end
/-! ### the elements -/
section
/-- a check over the elements of wheels -/
def onE (p : List Int → List Int → Bool) (w : List Int) : Bool := onS (m__law_all w) fun ev => ev.all (p w)
end
/-! ### groups within, in plain mathematics -/
section
/-- elements of wheels -/
def El : List Int → List Int → Prop
  | [], [] => True
  | n :: w, a :: x => (0 ≤ a ∧ a < n) ∧ El w x
  | [], _ :: _ => False
  | _ :: _, [] => False
def ad : List Int → List Int → List Int → List Int
  | n :: w, a :: x, b :: y => (a + b) % n :: ad w x y
  | _, _, _ => []
def zr (w : List Int) : List Int := w.map fun _ => 0
theorem El.len : ∀ {w x : List Int}, El w x → x.length = w.length
  | [], [], _ => rfl
  | _ :: _, _ :: _, h => by simp [El.len h.2]
theorem El.zr' : ∀ {w x : List Int}, El w x → El w (zr w)
  | [], [], _ => trivial
  | n :: w, a :: x, h => ⟨⟨Int.le_refl _, by have := h.1; show (0 : Int) < n; omega⟩, El.zr' h.2⟩
theorem El.ad : ∀ {w x y : List Int}, El w x → El w y → El w (ad w x y)
  | [], [], [], _, _ => trivial
  | n :: w, a :: x, b :: y, h, h' => by
    have hn : (0 : Int) < n := by have := h.1; omega
    exact ⟨⟨Int.emod_nonneg _ (Int.ne_of_gt hn), Int.emod_lt_of_pos _ hn⟩, El.ad h.2 h'.2⟩
theorem ad_zero : ∀ {w x : List Int}, El w x → ad w x (zr w) = x
  | [], [], _ => rfl
  | n :: w, a :: x, h => by
    show (a + 0) % n :: ad w x (zr w) = _
    rw [ad_zero h.2, Int.add_zero, Int.emod_eq_of_lt h.1.1 h.1.2]
theorem ad_comm : ∀ (w x y : List Int), ad w x y = ad w y x
  | n :: w, a :: x, b :: y => by show (a + b) % n :: ad w x y = (b + a) % n :: ad w y x; rw [ad_comm w x y, Int.add_comm]
  | [], _, _ => by unfold ad; rfl
  | _ :: _, [], [] => rfl
  | _ :: _, [], _ :: _ => rfl
  | _ :: _, _ :: _, [] => rfl
theorem ad_assoc : ∀ {w x y z : List Int}, El w x → El w y → El w z → ad w (ad w x y) z = ad w x (ad w y z)
  | [], [], [], [], _, _, _ => rfl
  | n :: w, a :: x, b :: y, c :: z, h1, h2, h3 => by
    show ((a + b) % n + c) % n :: ad w (ad w x y) z = (a + (b + c) % n) % n :: ad w x (ad w y z)
    rw [ad_assoc h1.2 h2.2 h3.2, Int.emod_add_emod, Int.add_emod_emod, Int.add_assoc]
theorem zero_ad {w x : List Int} (h : El w x) : ad w (zr w) x = x := by rw [ad_comm, ad_zero h]
/-- sizes -/
def okL (w : List Int) : Prop := w.length ≤ 100
theorem sum_eq {w : List Int} : ∀ {x y : List Int}, El w x → El w y → lcF (fun (x112 : (Int × Int × Int)) => (pmod (x112.1 + x112.2.1) x112.2.2).bind fun n113 => some (some n113)) (x.zip (y.zip w)) = some (ad w x y) := by
  induction w with
  | nil =>
    intro x y h h'
    match x, y, h, h' with
    | [], [], _, _ => rfl
  | cons n w ih =>
    intro x y h h'
    match x, y, h, h' with
    | a :: x, b :: y, h, h' =>
      show lcF _ ((a, b, n) :: x.zip (y.zip w)) = some ((a + b) % n :: ad w x y)
      unfold lcF
      rw [ih h.2 h'.2]
      dsimp only
      rw [pmod_p (show (0 : Int) < n by have := h.1; omega)]
      rfl
theorem plus_eq {w x y : List Int} (hw : okL w) (h : El w x) (h' : El w y) : m_plus w x y = some (ad w x y) := by
  have hz : (x.zip (y.zip w)).length ≤ 100 := by rw [List.length_zip, List.length_zip, h.len]; unfold okL at hw; omega
  unfold m_plus
  rw [szL_ok (by omega), Option.bind_some, sum_eq h h']
  rfl
theorem repT_zr : ∀ w : List Int, repT (w.length : Int) [(0 : Int)] = zr w := fun w => by
  unfold repT zr
  rw [Int.toNat_natCast]
  induction w with
  | nil => rfl
  | cons n w ih => rw [List.length_cons, List.replicate_succ, List.flatten_cons, ih]; rfl
theorem repOk_zr {w : List Int} (hw : okL w) : repOk [(0 : Int)].length (w.length : Int) = some () := by
  unfold repOk okL at *
  rw [if_pos ⟨by simp, by simp, by omega, by omega⟩]
theorem nought_eq {w : List Int} (hw : okL w) : m_nought w = some (zr w) := by
  unfold m_nought
  rw [repOk_zr hw, Option.bind_some, repT_zr]
/-! the order of tuples -/
theorem leD_W (a b : List Int) : leD (eT PyData.int a) (eT PyData.int b) = decide (a ≤ b) := by
  unfold leD
  have h : PySem.W.dataLt (eT PyData.int b) (eT PyData.int a) = decide (b < a) := PySem.W.dataLt_ints b a
  rw [h]
  show (!decide (b < a)) = decide (¬ b < a)
  rw [decide_not]
abbrev leW (a b : List Int) : Bool := leD (eT PyData.int a) (eT PyData.int b)
theorem leW_total : PySem.W.TotalLe leW := ⟨fun a b c h1 h2 => leD_total.trans _ _ _ h1 h2, fun a b => leD_total.total _ _⟩
theorem leW_anti {a b : List Int} (h1 : leW a b = true) (h2 : leW b a = true) : a = b := by
  have e1 : a ≤ b := of_decide_eq_true ((leD_W a b) ▸ h1)
  have e2 : b ≤ a := of_decide_eq_true ((leD_W b a) ▸ h2)
  exact List.le_antisymm e1 e2
abbrev srt (xs : List (List Int)) : List (List Int) := isort (fun a b => leD ((eT PyData.int) a) ((eT PyData.int) b)) xs
theorem srt_sorted (xs : List (List Int)) : (srt xs).Pairwise (fun a b => leW a b = true) := isort_le leW_total
theorem srt_perm (xs : List (List Int)) : (srt xs).Perm xs := isort_perm
theorem leW_refl (a : List Int) : leW a a = true := by rcases leW_total.total a a with h | h <;> exact h
theorem sorted_eq {xs ys : List (List Int)} (p : xs.Perm ys) (h1 : xs.Pairwise (fun a b => leW a b = true)) (h2 : ys.Pairwise (fun a b => leW a b = true)) : xs = ys :=
  sorted_uniq p h1 h2 (fun _ _ _ _ => leW_anti) fun a _ => leW_refl a
theorem srt_eq {xs ys : List (List Int)} (hx : xs.Nodup) (hy : ys.Nodup) (hs : ys.Pairwise (fun a b => leW a b = true)) (h : ∀ a, a ∈ xs ↔ a ∈ ys) : srt xs = ys :=
  sorted_eq ((srt_perm xs).trans ((List.perm_ext_iff_of_nodup hx hy).mpr h)) (srt_sorted xs) hs
/-! groups within -/
structure Grp (w : List Int) (g : List (List Int)) : Prop where
  el : ∀ a ∈ g, El w a
  zero : zr w ∈ g
  add : ∀ a ∈ g, ∀ b ∈ g, ad w a b ∈ g
  nd : g.Nodup
  so : g.Pairwise (fun a b => leW a b = true)
/-- reached from some items -/
inductive Rch (w : List Int) (items : List (List Int)) : List Int → Prop
  | zero : Rch w items (zr w)
  | add {a i : List Int} : Rch w items a → i ∈ items → Rch w items (ad w a i)
section
variable {w : List Int} {items : List (List Int)}
theorem Rch.el (hi : ∀ i ∈ items, El w i) (hz : El w (zr w)) {a : List Int} (h : Rch w items a) : El w a := by
  induction h with
  | zero => exact hz
  | add h m ih => exact ih.ad (hi _ m)
theorem Rch.sum (hi : ∀ i ∈ items, El w i) (hz : El w (zr w)) {a b : List Int} (h : Rch w items a) (h' : Rch w items b) : Rch w items (ad w a b) := by
  induction h' with
  | zero => rw [ad_zero (h.el hi hz)]; exact h
  | add hb m ih =>
    rw [← ad_assoc (h.el hi hz) (hb.el hi hz) (hi _ m)]
    exact .add ih m
theorem Rch.item (hi : ∀ i ∈ items, El w i) {i : List Int} (m : i ∈ items) : Rch w items i := by
  have := Rch.add (w := w) .zero m
  rwa [zero_ad (hi i m)] at this
theorem Rch.within {g : List (List Int)} (G : Grp w g) (hi : ∀ i ∈ items, i ∈ g) {a : List Int} (h : Rch w items a) : a ∈ g := by
  induction h with
  | zero => exact G.zero
  | add h m ih => exact G.add _ ih _ (hi _ m)
/-- what a worklist keeps: found so far, the first k worked off -/
structure Wl (w : List Int) (items found : List (List Int)) (k : Nat) : Prop where
  nd : found.Nodup
  zero : zr w ∈ found
  rch : ∀ a ∈ found, Rch w items a
  done : ∀ j a, j < k → found[j]? = some a → ∀ i ∈ items, ad w a i ∈ found
theorem Wl.start : Wl w items [zr w] 0 := ⟨by simp, by simp, fun a h => by simp at h; subst h; exact .zero, fun j a h => absurd h (Nat.not_lt_zero _)⟩
/-- the end of a worklist -/
theorem Wl.grp {found : List (List Int)} (hi : ∀ i ∈ items, El w i) (hz : El w (zr w)) (L : Wl w items found found.length) : Grp w (srt found) ∧ ∀ a, a ∈ srt found ↔ Rch w items a := by
  have mem : ∀ a, a ∈ found ↔ Rch w items a := fun a => by
    refine ⟨L.rch a, fun h => ?_⟩
    induction h with
    | zero => exact L.zero
    | add h m ih =>
      obtain ⟨j, hj, e⟩ := List.getElem_of_mem ih
      exact L.done j _ hj (by rw [List.getElem?_eq_getElem hj, e]) _ m
  have mem2 : ∀ a, a ∈ srt found ↔ Rch w items a := fun a => by rw [(srt_perm found).mem_iff]; exact mem a
  refine ⟨⟨fun a h => ((mem2 a).mp h).el hi hz, (mem2 _).mpr .zero, fun a h b h' => (mem2 _).mpr (((mem2 a).mp h).sum hi hz ((mem2 b).mp h')), (srt_perm found).nodup_iff.mpr L.nd, srt_sorted found⟩, mem2⟩
theorem grp_eq {g h : List (List Int)} (G : Grp w g) (H : Grp w h) (e : ∀ a, a ∈ g ↔ a ∈ h) : g = h :=
  sorted_eq ((List.perm_ext_iff_of_nodup G.nd H.nd).mpr e) G.so H.so
/-- a group is reached from its own elements -/
theorem Grp.own {g : List (List Int)} (G : Grp w g) {a : List Int} : Rch w g a ↔ a ∈ g :=
  ⟨fun h => h.within G fun _ m => m, fun h => .item (fun i m => G.el i m) h⟩
end
end
/-! ### the law's own sum -/
theorem law_sum_eq {w x y : List Int} (hw : okL w) (h : El w x) (h' : El w y) : m__law_sum w x y = some (ad w x y) := plus_eq hw h h'
/-! ### the programs' closures -/
section
theorem nodup_len {α : Type} [DecidableEq α] : ∀ {l m : List α}, l.Nodup → (∀ a ∈ l, a ∈ m) → l.length ≤ m.length
  | [], m, _, _ => Nat.zero_le _
  | a :: l, m, h, hs => by
    obtain ⟨h1, h2⟩ := List.nodup_cons.mp h
    have hm : a ∈ m := hs a (by simp)
    have := nodup_len (l := l) (m := m.erase a) h2 fun b hb => by
      have hne : b ≠ a := fun e => h1 (e ▸ hb)
      exact (List.mem_erase_of_ne hne).mpr (hs b (by simp [hb]))
    have e := List.length_erase_of_mem hm
    have : 0 < m.length := List.length_pos_of_mem hm
    rw [List.length_cons]
    omega
theorem whF_inv {S : Type} {c : S → Option Bool} {f : S → Option S} {I : S → Prop} {μ : S → Nat} (step : ∀ s, I s → ∃ b, c s = some b ∧ (b = true → ∃ s', f s = some s' ∧ I s' ∧ μ s' < μ s)) : ∀ (n : Nat) (s : S), μ s < n → I s → ∃ s', whF c f n s = some s' ∧ I s' ∧ c s' = some false
  | 0, s, h, _ => absurd h (Nat.not_lt_zero _)
  | n + 1, s, h, hi => by
    obtain ⟨b, e, g⟩ := step s hi
    unfold whF
    rw [e]
    cases b with
    | false => exact ⟨s, rfl, hi, e⟩
    | true =>
      obtain ⟨s', e2, hi', hm⟩ := g rfl
      dsimp only
      rw [e2]
      exact whF_inv step n s' (by omega) hi'
/-- few elements -/
structure Few (w : List Int) (N : Nat) : Prop where
  len : okL w
  le : N ≤ 1000
  z : El w (zr w)
  few : ∀ l : List (List Int), l.Nodup → (∀ a ∈ l, El w a) → l.length ≤ N
variable {w : List Int} {items : List (List Int)} {N : Nat}
theorem srtOk_W {f : List (List Int)} (h : ∀ a ∈ f, a ≠ []) : srtOk (f.map (eT PyData.int)) = true := by
  unfold srtOk
  rw [Bool.or_eq_true]
  right
  simp only [Bool.and_eq_true, Bool.or_eq_true, List.all_eq_true, List.mem_map, forall_exists_index, and_imp, forall_apply_eq_imp_iff₂, decide_eq_true_eq]
  refine ⟨⟨fun a _ b _ => alike_W a b, .inl fun a ha => ?_⟩, fun a _ => by rw [depth_W]; decide⟩
  cases a with
  | nil => exact absurd rfl (h _ ha)
  | cons x xs => rfl
theorem srtOk_1 {f : List (List Int)} (h : f.length ≤ 1) : srtOk (f.map (eT PyData.int)) = true := by
  unfold srtOk
  rw [Bool.or_eq_true]
  left
  rw [List.length_map]
  exact decide_eq_true h
theorem El.ne (hw : w ≠ []) {a : List Int} (h : El w a) : a ≠ [] := fun e => by
  subst e
  cases w with
  | nil => exact hw rfl
  | cons n w => exact h
theorem El.nil {a : List Int} (h : El [] a) : a = [] := by
  cases a with
  | nil => rfl
  | cons x xs => exact h.elim
theorem srt_ok (F : Few w N) {f : List (List Int)} (hn : f.Nodup) (h : ∀ a ∈ f, El w a) : srtOk (f.map (eT PyData.int)) = true := by
  by_cases hw : w = []
  · subst hw
    refine srtOk_1 ?_
    match f, hn, h with
    | [], _, _ => simp
    | [a], _, _ => simp
    | a :: b :: _, hn, h =>
      have := (h a (by simp)).nil
      have := (h b (by simp)).nil
      simp_all
  · exact srtOk_W fun a ha => (h a ha).ne hw
abbrev mk (found : List (List Int)) : List (List Int × Bool) := found.map fun x => (x, true)
theorem dget_mk (found : List (List Int)) (x : List Int) : (dget (mk found) x).isSome = decide (x ∈ found) := by
  induction found with
  | nil => rfl
  | cons y ys ih =>
    by_cases h : y = x
    · subst h; simp [dget]
    · have h2 : ¬ x = y := fun e => h e.symm
      have : (dget (mk (y :: ys)) x) = dget (mk ys) x := by simp [dget, List.find?_cons, h]
      rw [this, ih]
      simp [h2]
theorem dput_mk {found : List (List Int)} {x : List Int} (h : x ∉ found) : dput (mk found) x true = mk (found ++ [x]) := by
  unfold dput
  rw [dget_any, dget_mk]
  rw [decide_eq_false h]
  simp
theorem idx_pre {f0 found : List (List Int)} {k : Nat} (hk : k < f0.length) (hp : f0 <+: found) : idx found (k : Int) = some f0[k] := by
  obtain ⟨t, rfl⟩ := hp
  have hk' : k < (f0 ++ t).length := by rw [List.length_append]; omega
  rw [idx_nat (by omega) (by omega)]
  simp [List.getElem_append_left hk]
/-- one element worked off -/
structure In1 (w : List Int) (items f0 : List (List Int)) (a : List Int) (done : List (List Int)) (found : List (List Int)) : Prop where
  pre : f0 <+: found
  nd : found.Nodup
  rch : ∀ b ∈ found, Rch w items b
  got : ∀ i ∈ done, ad w a i ∈ found
theorem made_inner (F : Few w N) (hi : ∀ i ∈ items, El w i) {f0 : List (List Int)} {k : Nat} (hk : k < f0.length) : ∀ (todo done found : List (List Int)), (∀ i ∈ todo, i ∈ items) → In1 w items f0 f0[k] done found →
    ∃ found', forF (fun (x172 : (List Int)) (s171 : (List (List Int)) × (List ((List Int) × Bool))) => (idx s171.1 (k : Int)).bind fun x177 => (m_plus w x177 x172).bind fun r178 => (bif (!(dget s171.2 r178).isSome) then (szOk (s171.2.length + 1)).bind fun u182 => (szOk (s171.1.length + 1)).bind fun u183 => some ((s171.1 ++ [r178]), (dput s171.2 r178 true)) else some (s171.1, s171.2)).bind fun (s181 : (List (List Int)) × (List ((List Int) × Bool))) => some (s181.1, s181.2)) todo (found, mk found) = some (found', mk found') ∧ In1 w items f0 f0[k] (done ++ todo) found'
  | [], done, found, _, h => ⟨found, rfl, by rw [List.append_nil]; exact h⟩
  | i :: todo, done, found, hs, h => by
    have hix := idx_pre hk h.pre
    have ra : Rch w items f0[k] := h.rch _ (h.pre.subset (List.getElem_mem hk))
    have ea := ra.el hi F.z
    have mi := hs i (by simp)
    have ei := hi i mi
    have hpl := plus_eq F.len ea ei
    have efew := F.few found h.nd fun b hb => (h.rch b hb).el hi F.z
    have hle := F.le
    by_cases hin : ad w f0[k] i ∈ found
    · have h' : In1 w items f0 f0[k] (done ++ [i]) found := ⟨h.pre, h.nd, h.rch, fun j hj => by
        rcases List.mem_append.mp hj with hj | hj
        · exact h.got j hj
        · rw [List.mem_singleton.mp hj]; exact hin⟩
      obtain ⟨f', e, g⟩ := made_inner F hi hk todo (done ++ [i]) found (fun j hj => hs j (by simp [hj])) h'
      refine ⟨f', ?_, by rw [List.append_assoc] at g; exact g⟩
      unfold forF
      dsimp only
      rw [hix, Option.bind_some, hpl, Option.bind_some, dget_mk, decide_eq_true hin]
      exact e
    · have h' : In1 w items f0 f0[k] (done ++ [i]) (found ++ [ad w f0[k] i]) := by
        refine ⟨h.pre.trans (List.prefix_append _ _), ?_, fun b hb => ?_, fun j hj => ?_⟩
        · rw [List.nodup_append]
          refine ⟨h.nd, by simp, fun x hx y hy e => ?_⟩
          rw [List.mem_singleton] at hy
          exact hin (hy ▸ e ▸ hx)
        · rcases List.mem_append.mp hb with hb | hb
          · exact h.rch b hb
          · rw [List.mem_singleton.mp hb]; exact .add ra mi
        · rcases List.mem_append.mp hj with hj | hj
          · exact List.mem_append_left _ (h.got j hj)
          · rw [List.mem_singleton.mp hj]; simp
      obtain ⟨f', e, g⟩ := made_inner F hi hk todo (done ++ [i]) (found ++ [ad w f0[k] i]) (fun j hj => hs j (by simp [hj])) h'
      refine ⟨f', ?_, by rw [List.append_assoc] at g; exact g⟩
      unfold forF
      dsimp only
      rw [hix, Option.bind_some, hpl, Option.bind_some, dget_mk, decide_eq_false hin]
      have hz : szOk (found.length + 1) = some () := szOk_ok (by omega)
      have hz2 : szOk ((mk found).length + 1) = some () := by rw [show (mk found).length = found.length from List.length_map ..]; exact hz
      simp only [Bool.not_false, cond_true, hz, hz2, Option.bind_some, dput_mk hin]
      exact e
/-- the outer walk -/
theorem wl_next {f0 found : List (List Int)} {k : Nat} (hk : k < f0.length) (L : Wl w items f0 k) (h : In1 w items f0 f0[k] items found) : Wl w items found (k + 1) := by
  refine ⟨h.nd, h.pre.subset L.zero, h.rch, fun j a hj e i mi => ?_⟩
  obtain ⟨t, et⟩ := h.pre
  have ej : f0[j]? = some a := by
    rw [← et, List.getElem?_append_left (by omega)] at e
    exact e
  by_cases hjk : j < k
  · exact h.pre.subset (L.done j a hjk ej i mi)
  · have : j = k := by omega
    subst this
    rw [List.getElem?_eq_getElem hk] at ej
    cases ej
    exact h.got i mi
theorem made_spec (F : Few w N) (hi : ∀ i ∈ items, El w i) : ∃ g, m_made_by w items = some g ∧ Grp w g ∧ ∀ a, a ∈ g ↔ Rch w items a := by
  have hle := F.le
  have key := whF_inv (S := (List (List Int)) × (List ((List Int) × Bool)) × Int) (c := fun (s170 : (List (List Int)) × (List ((List Int) × Bool)) × Int) => some (decide (s170.2.2 < (s170.1.length : Int))))
    (f := fun (s170 : (List (List Int)) × (List ((List Int) × Bool)) × Int) => (forF (fun (x172 : (List Int)) (s171 : (List (List Int)) × (List ((List Int) × Bool))) => (idx s171.1 s170.2.2).bind fun x177 => (m_plus w x177 x172).bind fun r178 => (bif (!(dget s171.2 r178).isSome) then (szOk (s171.2.length + 1)).bind fun u182 => (szOk (s171.1.length + 1)).bind fun u183 => some ((s171.1 ++ [r178]), (dput s171.2 r178 true)) else some (s171.1, s171.2)).bind fun (s181 : (List (List Int)) × (List ((List Int) × Bool))) => some (s181.1, s181.2)) items (s170.1, s170.2.1)).bind fun s184 => some (s184.1, s184.2, (s170.2.2 + (1 : Int))))
    (I := fun s => ∃ k : Nat, s.2.2 = (k : Int) ∧ k ≤ s.1.length ∧ s.2.1 = mk s.1 ∧ Wl w items s.1 k) (μ := fun s => N - s.2.2.toNat) (fun s hI => by
      obtain ⟨found, seen, at'⟩ := s
      obtain ⟨k, e1, e2, e3, L⟩ := hI
      dsimp only at e1 e2 e3 L
      subst e1 e3
      refine ⟨_, rfl, fun hb => ?_⟩
      have hk : k < found.length := by have hb' : (k : Int) < (found.length : Int) := of_decide_eq_true hb; omega
      obtain ⟨f', e, g⟩ := made_inner F hi hk items [] found (fun _ m => m) ⟨List.prefix_refl _, L.nd, L.rch, fun _ m => nomatch m⟩
      rw [List.nil_append] at g
      have L' := wl_next hk L g
      refine ⟨(f', mk f', ((k + 1 : Nat) : Int)), ?_, ⟨k + 1, rfl, ?_, rfl, L'⟩, ?_⟩
      · dsimp only
        rw [e]
        rfl
      · have := g.pre.length_le
        show k + 1 ≤ f'.length
        omega
      · have := F.few found L.nd fun b hb => (L.rch b hb).el hi F.z
        show N - ((k + 1 : Nat) : Int).toNat < N - ((k : Nat) : Int).toNat
        omega) 100000 ([zr w], mk [zr w], 0) (by dsimp only; omega) ⟨0, rfl, by simp, rfl, Wl.start⟩
  obtain ⟨s', e, ⟨k, e1, e2, e3, L⟩, hc⟩ := key
  have hk : s'.1.length = k := by
    have := of_decide_eq_false (Option.some.inj hc)
    omega
  rw [← hk] at L
  obtain ⟨G, mem⟩ := L.grp hi F.z
  have efew := F.few s'.1 L.nd fun b hb => (L.rch b hb).el hi F.z
  refine ⟨srt s'.1, ?_, G, mem⟩
  refine bind_of _ (nought_eq F.len) (bind_of (zr w) rfl (bind_of s' e (bind_of () ?_ rfl)))
  unfold gd
  rw [srt_ok F L.nd fun b hb => (L.rch b hb).el hi F.z]
  rfl
end
/-! ### sets of tuples; groups within are seen as such -/
section
variable {w : List Int} {items : List (List Int)} {N : Nat}
theorem foldmax_le : ∀ (k : List Int) (m : Int), m ≤ k.foldl (fun m i => if m < i then i else m) m ∧ ∀ i ∈ k, i ≤ k.foldl (fun m i => if m < i then i else m) m
  | [], m => ⟨Int.le_refl _, fun _ h => nomatch h⟩
  | x :: xs, m => by
    obtain ⟨h1, h2⟩ := foldmax_le xs (if m < x then x else m)
    rw [List.foldl_cons]
    refine ⟨Int.le_trans (by split <;> omega) h1, fun i hi => ?_⟩
    rcases List.mem_cons.mp hi with rfl | hi
    · exact Int.le_trans (by split <;> omega) h1
    · exact h2 i hi
theorem foldmax2_le : ∀ (ks : List (List Int)) (m : Int), m ≤ ks.foldl (fun m k => k.foldl (fun m i => if m < i then i else m) m) m ∧ ∀ k ∈ ks, ∀ i ∈ k, i ≤ ks.foldl (fun m k => k.foldl (fun m i => if m < i then i else m) m) m
  | [], m => ⟨Int.le_refl _, fun _ h => nomatch h⟩
  | x :: xs, m => by
    obtain ⟨h1, h2⟩ := foldmax2_le xs (x.foldl (fun m i => if m < i then i else m) m)
    obtain ⟨g1, g2⟩ := foldmax_le x m
    rw [List.foldl_cons]
    refine ⟨Int.le_trans g1 h1, fun k hk i hi => ?_⟩
    rcases List.mem_cons.mp hk with rfl | hk
    · exact Int.le_trans (g2 i hi) h1
    · exact h2 k hk i hi
theorem lt_bdB {ks : List (List Int)} {k : List Int} {i : Int} (hk : k ∈ ks) (hi : i ∈ k) : i < bdB ks := by
  have := (foldmax2_le ks 0).2 k hk i hi
  unfold bdB
  omega
theorem El.nonneg : ∀ {w a : List Int}, El w a → ∀ i ∈ a, 0 ≤ i
  | [], [], _, _, h => nomatch h
  | n :: w, a :: x, h, i, hi => by
    rcases List.mem_cons.mp hi with rfl | hi
    · exact h.1.1
    · exact El.nonneg h.2 i hi
theorem El.bd {ks : List (List Int)} {k : List Int} (h : El w k) (hk : k ∈ ks) : TS.Bd (bdB ks) k := fun i hi => ⟨h.nonneg i hi, lt_bdB hk hi⟩
theorem ddup_1 : ∀ {ks : List (List Int)}, (∀ a ∈ ks, a = []) → (ddup ks).length ≤ 1
  | [], _ => Nat.zero_le _
  | x :: xs, h => by
    unfold ddup
    split
    · exact ddup_1 fun a ha => h a (by simp [ha])
    · rename_i hx
      cases xs with
      | nil => exact Nat.le_refl _
      | cons y ys => exact absurd (by rw [h x (by simp), h y (by simp)]; simp) hx
theorem setOk_W {ks : List (List Int)} (hl : ks.length < 64) (h : ∀ a ∈ ks, El w a) : setOk ks = true := by
  unfold setOk
  rw [Bool.and_eq_true, Bool.or_eq_true]
  refine ⟨decide_eq_true hl, ?_⟩
  by_cases hw : w = []
  · subst hw
    exact .inl (decide_eq_true (ddup_1 fun a ha => (h a ha).nil))
  · cases ks with
    | nil => exact .inl (decide_eq_true (Nat.zero_le _))
    | cons k0 kr =>
      right
      rw [Bool.and_eq_true, List.all_eq_true]
      have e0 := (h k0 (by simp)).len
      refine ⟨decide_eq_true ?_, fun k hk => ?_⟩
      · show 1 ≤ k0.length
        rw [e0]
        exact List.length_pos_iff.mpr hw
      · rw [Bool.and_eq_true, List.all_eq_true]
        exact ⟨decide_eq_true (((h k hk).len).trans e0.symm), fun i hi => decide_eq_true ((h k hk).bd hk i hi)⟩
theorem mem_sset {ks : List (List Int)} {a : List Int} : a ∈ sset ks ↔ a ∈ ks := by unfold sset; rw [isort_perm.mem_iff, mem_ddup]
theorem nodup_sset {ks : List (List Int)} : (sset ks).Nodup := by unfold sset; exact isort_perm.nodup_iff.mpr nodup_ddup
theorem code_mono {B : Int} : ∀ {a b : List Int}, a.length = b.length → TS.Bd B a → TS.Bd B b → a ≤ b → TS.code B a ≤ TS.code B b
  | [], [], _, _, _, _ => Int.le_refl _
  | x :: xs, y :: ys, hl, ha, hb, h => by
    have hl' : xs.length = ys.length := by simpa using hl
    rcases Int.lt_trichotomy x y with q | q | q
    · exact Int.le_of_lt (TS.code_lt hl' ha.tail hb.tail q)
    · subst q
      have h' : xs ≤ ys := by
        intro z
        exact h (List.cons_lt_cons_iff.mpr (.inr ⟨rfl, z⟩))
      have := code_mono hl' ha.tail hb.tail h'
      show x * B ^ xs.length + TS.code B xs ≤ x * B ^ ys.length + TS.code B ys
      rw [hl']
      omega
    · exact absurd (List.cons_lt_cons_iff.mpr (.inl q)) h
theorem sset_grp {g : List (List Int)} (G : Grp w g) (hl : g.length < 64) : setOk g = true ∧ sset g = g := by
  have ho := setOk_W hl G.el
  refine ⟨ho, (sset_uniq ho G.nd (fun _ => Iff.rfl) fun _ => ?_).symm⟩
  refine List.Pairwise.imp_of_mem (fun {a b} ha hb h => ?_) G.so
  exact code_mono ((G.el a ha).len.trans (G.el b hb).len.symm) ((G.el a ha).bd ha) ((G.el b hb).bd hb) (of_decide_eq_true ((leD_W a b) ▸ h))
theorem toTW_W (g : List (List Int)) : toTW (eT (eT PyData.int) g) = some g := by
  have hW : ∀ a : List Int, toW (eT PyData.int a) = some a := fun a => allI_map a
  show (g.map (eT PyData.int)).mapM toW = some g
  induction g with
  | nil => rfl
  | cons x xs ih => rw [List.map_cons, List.mapM_cons, ih, hW]; rfl
/-- the elements' texts -/
structure Txt (w : List Int) (ev : List (List Int)) : Prop where
  all : m_elements_of w = some ev
  mem : ∀ a, a ∈ ev ↔ El w a
  sz : ev.length ≤ 1000
  r : ∀ x ∈ ev, okR (eT PyData.int x) = true
  s : ∀ x ∈ ev, SeqAt.shaped (PyData.str ((eT PyData.int) x).shown) = true
  l : SeqAt.shaped (eL PyData.str (ev.map fun x => ((eT PyData.int) x).shown)) = true
theorem eD_mapL (ds : List D) : (eL eD) ds = PyData.list ds := by
  show PyData.list (ds.map eD) = _
  rw [show (eD : D → D) = id from rfl, List.map_id]
theorem within_spec (F : Few w N) (hN : N < 64) {ev g : List (List Int)} (X : Txt w ev) (G : Grp w g) : m_is_within w (eT (eT PyData.int) g) = some true := by
  have hlen := F.few g G.nd G.el
  obtain ⟨ho, hs⟩ := sset_grp G (by omega)
  have gne : g ≠ [] := fun e => by have := G.zero; rw [e] at this; cases this
  have glen : ¬ ((g.map (eT PyData.int)).length : Int) = 0 := by
    rw [List.length_map]
    have := List.length_pos_iff.mpr gne
    omega
  obtain ⟨g', em, G', mem⟩ := made_spec F G.el
  · have eg : g' = g := grp_eq G' G fun a => by rw [mem]; exact G.own
    subst eg
    unfold m_is_within
    refine bind_of false ?_ ?_
    · rw [show isA "tuple" (eT (eT PyData.int) g') = true by simp [isA, dty]]
      simp only [Bool.not_true, oor, Bool.false_eq_true, if_false]
      refine bind_of (g'.map (eT PyData.int)) rfl ?_
      rw [decide_eq_false glen]
    refine bind_of ev X.all (bind_of (g'.map (eT PyData.int)) rfl (bind_of () (szL_ok (by rw [List.length_map]; omega)) (bind_of ((g'.map (eT PyData.int)).map fun _ => true) (lcF_all fun d hd => ?_) ?_)))
    · obtain ⟨x, hx, rfl⟩ := List.mem_map.mp hd
      have hxe : x ∈ ev := (X.mem x).mpr (G'.el x hx)
      refine bind_of true ?_ rfl
      refine bind_of () (by unfold gd; rw [X.r x hxe]; rfl) (bind_of () (szL_ok (by have := X.sz; omega)) (bind_of (ev.map fun x => ((eT PyData.int) x).shown) (lcF_all fun y hy => ?_) (bind_of () (by unfold gd; rw [X.s x hxe]; rfl) (bind_of () (by unfold gd; rw [X.l]; rfl) ?_))))
      · exact bind_of () (by unfold gd; rw [X.r y hy]; rfl) rfl
      · rw [decide_eq_true (List.mem_map.mpr ⟨x, hxe, rfl⟩)]
    have hall : (((g'.map (eT PyData.int)).map fun _ => true).all id) = true := by
      rw [List.all_eq_true]
      intro b hb
      obtain ⟨_, _, rfl⟩ := List.mem_map.mp hb
      rfl
    rw [hall]
    have s1 : SeqAt.shaped (eL (eT PyData.int) g') = true := Sh.shaped (Sh.L (Sh.T Sh.int)) (by decide) g'
    have s2 : SeqAt.shaped (eT (eT PyData.int) g') = true := Sh.shaped (Sh.T (Sh.T Sh.int)) (by decide) g'
    have l1 : (eL eD) (g'.map (eT PyData.int)) = eL (eT PyData.int) g' := eD_mapL _
    refine bind_of g' (toTW_W g') (bind_of () (by unfold gd; rw [ho]; rfl) (bind_of () ?_ (bind_of true ?_ rfl)))
    · rw [l1, hs]; unfold gdS gd; rw [s1]; rfl
    · rw [l1, hs]
      have e1 : PyData.eqv (eL (eT PyData.int) g') (eL (eT PyData.int) g') = true := by rw [Eqv.L (Eqv.T Eqv.int)]; exact decide_eq_true rfl
      have e2 : PyData.eqv (eT (eT PyData.int) g') (eT (eT PyData.int) g') = true := by rw [Eqv.T (Eqv.T Eqv.int)]; exact decide_eq_true rfl
      rw [e1]
      exact bind_of g' (toTW_W g') (bind_of g' em (bind_of () (by unfold gdS gd; rw [s2]; rfl) (by rw [e2])))
end
/-! ### the law's own closure -/
section
variable {w : List Int} {items : List (List Int)} {N : Nat}
theorem lawmade_spec (F : Few w N) (hi : ∀ i ∈ items, El w i) (hl : items.length < 64) : ∃ g, m__law_made w items = some g ∧ Grp w g ∧ ∀ a, a ∈ g ↔ Rch w items a := by
  have hle := F.le
  have key := whF_inv (S := (List (List Int)) × Int) (c := fun (s108 : (List (List Int)) × Int) => some (decide (s108.2 < (s108.1.length : Int))))
    (f := fun (s108 : (List (List Int)) × Int) => (szL items).bind fun u109 => (lcF (fun (x110 : (List Int)) => (idx s108.1 s108.2).bind fun x115 => (m__law_sum w x115 x110).bind fun r116 => some (some r116)) items).bind fun ys117 => (szL ys117).bind fun u118 => (gd (setOk ((ys117.filter (fun (x119 : (List Int)) => (!decide (x119 ∈ s108.1)))).map (fun (x119 : (List Int)) => x119)))).bind fun u120 => (szOk (s108.1.length + (sset ((ys117.filter (fun (x119 : (List Int)) => (!decide (x119 ∈ s108.1)))).map (fun (x119 : (List Int)) => x119))).length)).bind fun u121 => (some (s108.1 ++ (sset ((ys117.filter (fun (x119 : (List Int)) => (!decide (x119 ∈ s108.1)))).map (fun (x119 : (List Int)) => x119))))).bind fun v122 => some (v122, (s108.2 + (1 : Int))))
    (I := fun s => ∃ k : Nat, s.2 = (k : Int) ∧ k ≤ s.1.length ∧ Wl w items s.1 k) (μ := fun s => N - s.2.toNat) (fun s hI => by
      obtain ⟨found, at'⟩ := s
      obtain ⟨k, e1, e2, L⟩ := hI
      dsimp only at e1 e2 L
      subst e1
      refine ⟨_, rfl, fun hb => ?_⟩
      have hk : k < found.length := by have hb' : (k : Int) < (found.length : Int) := of_decide_eq_true hb; omega
      have efew := F.few found L.nd fun b hb => (L.rch b hb).el hi F.z
      have hix := idx_pre hk (List.prefix_refl found)
      have ra : Rch w items found[k] := L.rch _ (List.getElem_mem hk)
      have ea := ra.el hi F.z
      have hfr : lcF (fun (x110 : (List Int)) => (idx found (k : Int)).bind fun x115 => (m__law_sum w x115 x110).bind fun r116 => some (some r116)) items = some (items.map fun i => ad w found[k] i) := lcF_all fun i mi => by
        rw [hix, Option.bind_some, law_sum_eq F.len ea (hi i mi)]; rfl
      generalize hfl : ((items.map fun i => ad w found[k] i).filter (fun (x119 : (List Int)) => (!decide (x119 ∈ found)))).map (fun (x119 : (List Int)) => x119) = fresh
      have hfresh : ∀ b, b ∈ fresh ↔ (∃ i ∈ items, ad w found[k] i = b) ∧ b ∉ found := fun b => by
        rw [← hfl]
        simp [List.mem_filter]
      have elf : ∀ b ∈ fresh, El w b := fun b hb => by
        obtain ⟨⟨i, mi, rfl⟩, _⟩ := (hfresh b).mp hb
        exact ea.ad (hi i mi)
      have lenf : fresh.length ≤ items.length := by
        rw [← hfl, List.length_map]
        exact Nat.le_trans (List.length_filter_le _ _) (by rw [List.length_map]; exact Nat.le_refl _)
      have hso : setOk fresh = true := setOk_W (by omega) elf
      have hnd : (found ++ sset fresh).Nodup := by
        rw [List.nodup_append]
        refine ⟨L.nd, nodup_sset, fun x hx y hy e => ?_⟩
        exact ((hfresh y).mp (mem_sset.mp hy)).2 (e ▸ hx)
      have hrch : ∀ b ∈ found ++ sset fresh, Rch w items b := fun b hb => by
        rcases List.mem_append.mp hb with hb | hb
        · exact L.rch b hb
        · obtain ⟨⟨i, mi, rfl⟩, _⟩ := (hfresh b).mp (mem_sset.mp hb)
          exact .add ra mi
      have h' : In1 w items found found[k] items (found ++ sset fresh) := ⟨List.prefix_append _ _, hnd, hrch, fun i mi => by
        by_cases h : ad w found[k] i ∈ found
        · exact List.mem_append_left _ h
        · exact List.mem_append_right _ (mem_sset.mpr ((hfresh _).mpr ⟨⟨i, mi, rfl⟩, h⟩))⟩
      have L' := wl_next hk L h'
      have efew' := F.few _ hnd fun b hb => (hrch b hb).el hi F.z
      rw [List.length_append] at efew'
      refine ⟨(found ++ sset fresh, ((k + 1 : Nat) : Int)), ?_, ⟨k + 1, rfl, ?_, L'⟩, ?_⟩
      · refine bind_of () (szL_ok (by omega)) (bind_of _ hfr (bind_of () (szL_ok (by rw [List.length_map]; omega)) ?_))
        dsimp only
        rw [hfl]
        refine bind_of () (by unfold gd; rw [hso]; rfl) (bind_of () (szOk_ok (by omega)) (bind_of _ rfl rfl))
      · show k + 1 ≤ (found ++ sset fresh).length
        rw [List.length_append]; omega
      · show N - ((k + 1 : Nat) : Int).toNat < N - ((k : Nat) : Int).toNat
        omega) 100000 ([zr w], 0) (by dsimp only; omega) ⟨0, rfl, by simp, Wl.start⟩
  obtain ⟨s', e, ⟨k, e1, e2, L⟩, hc⟩ := key
  have hk : s'.1.length = k := by
    have := of_decide_eq_false (Option.some.inj hc)
    omega
  rw [← hk] at L
  obtain ⟨G, mem⟩ := L.grp hi F.z
  refine ⟨srt s'.1, ?_, G, mem⟩
  unfold m__law_made
  rw [repOk_zr F.len, Option.bind_some, repT_zr]
  refine bind_of _ rfl (bind_of s' e (bind_of () ?_ rfl))
  unfold gd
  rw [srt_ok F L.nd fun b hb => (L.rch b hb).el hi F.z]
  rfl
end
/-! ### all groups within -/
section
def alls : List Int → List (List Int)
  | [] => [[]]
  | n :: w => (irange 0 n).flatMap fun a => (alls w).map (a :: ·)
theorem mem_alls : ∀ {w x : List Int}, x ∈ alls w ↔ El w x
  | [], [] => by simp [alls, El]
  | [], _ :: _ => by simp [alls, El]
  | n :: w, [] => by simp [alls, El]
  | n :: w, a :: x => by
    unfold alls
    simp only [List.mem_flatMap, List.mem_map, mem_irange]
    constructor
    · rintro ⟨b, hb, y, hy, e⟩
      injection e with e1 e2
      subst e1 e2
      exact ⟨hb, mem_alls.mp hy⟩
    · rintro ⟨h1, h2⟩
      exact ⟨a, h1, x, mem_alls.mpr h2, rfl⟩
theorem few_of {w : List Int} {N : Nat} (h1 : w.length ≤ 100) (h2 : N ≤ 1000) (h3 : (alls w).length ≤ N) (h4 : ∀ n ∈ w, (0 : Int) < n) : Few w N := by
  refine ⟨h1, h2, ?_, fun l hn hl => Nat.le_trans (nodup_len hn fun a ha => mem_alls.mpr (hl a ha)) h3⟩
  clear h1 h3
  induction w with
  | nil => trivial
  | cons n w ih => exact ⟨⟨Int.le_refl _, h4 n (by simp)⟩, ih fun m hm => h4 m (by simp [hm])⟩
def isG (w : List Int) (g : List (List Int)) : Bool := decide (zr w ∈ g) && g.all (fun a => decide (a ∈ alls w)) && g.all (fun a => g.all fun b => decide (ad w a b ∈ g)) && decide g.Nodup && decide (g.Pairwise fun a b => a ≤ b)
theorem isG_of {w : List Int} {g : List (List Int)} (h : isG w g = true) : Grp w g := by
  unfold isG at h
  simp only [Bool.and_eq_true, decide_eq_true_eq, List.all_eq_true] at h
  obtain ⟨⟨⟨⟨h1, h2⟩, h3⟩, h4⟩, h5⟩ := h
  exact ⟨fun a ha => mem_alls.mp (h2 a ha), h1, h3, h4, h5.imp fun {a b} q => by rw [show leW a b = decide (a ≤ b) from leD_W a b]; exact decide_eq_true q⟩
/-- the group that L and x make -/
def extF (w : List Int) (L : List (List Int)) (x : List Int) : Nat → List Int → List (List Int) → List (List Int)
  | 0, _, acc => acc
  | n + 1, cur, acc => if cur ∈ L then acc else extF w L x n (ad w cur x) (acc ++ L.map (ad w cur))
def ext (w : List Int) (L : List (List Int)) (x : List Int) : List (List Int) := isort (fun a b => decide (a ≤ b)) (extF w L x 64 x L)
theorem extF_sub {w : List Int} {L g : List (List Int)} {x : List Int} (G : Grp w g) (hL : ∀ a ∈ L, a ∈ g) (hx : x ∈ g) : ∀ (n : Nat) (cur : List Int) (acc : List (List Int)), cur ∈ g → (∀ a ∈ acc, a ∈ g) → ∀ a ∈ extF w L x n cur acc, a ∈ g
  | 0, _, _, _, h, a, ha => h a ha
  | n + 1, cur, acc, hc, h, a, ha => by
    unfold extF at ha
    split at ha
    · exact h a ha
    · refine extF_sub G hL hx n _ _ (G.add _ hc _ hx) (fun b hb => ?_) a ha
      rcases List.mem_append.mp hb with hb | hb
      · exact h b hb
      · obtain ⟨c, hc', rfl⟩ := List.mem_map.mp hb
        exact G.add _ hc _ (hL c hc')
theorem ext_sub {w : List Int} {L g : List (List Int)} {x : List Int} (G : Grp w g) (hL : ∀ a ∈ L, a ∈ g) (hx : x ∈ g) {a : List Int} (ha : a ∈ ext w L x) : a ∈ g :=
  extF_sub G hL hx 64 x L hx hL a (isort_mem.mp ha)
/-- a list that holds all groups within -/
def stepC (w : List Int) (lit : List (List (List Int))) (L : List (List Int)) : Bool := (alls w).all fun x => decide (x ∈ L) || (decide (ext w L x ∈ lit) && decide (L.length < (ext w L x).length))
def full (w : List Int) (lit : List (List (List Int))) : Bool := decide ([zr w] ∈ lit) && lit.all (isG w) && lit.all (stepC w lit)
theorem full_of {w : List Int} {lit : List (List (List Int))} (h : full w lit = true) {g : List (List Int)} (G : Grp w g) : g ∈ lit := by
  unfold full stepC at h
  simp only [Bool.and_eq_true, decide_eq_true_eq, List.all_eq_true, Bool.or_eq_true] at h
  obtain ⟨⟨h1, h2⟩, h3⟩ := h
  have key : ∀ (n : Nat) (L : List (List Int)), L ∈ lit → (∀ a ∈ L, a ∈ g) → g.length - L.length ≤ n → g ∈ lit := by
    intro n
    induction n with
    | zero =>
      intro L hl hs hn
      have GL := isG_of (h2 L hl)
      have e1 := nodup_len GL.nd hs
      have e : L = g := by
        refine grp_eq GL G fun a => ⟨hs a, fun ha => Classical.byContradiction fun hna => ?_⟩
        have := nodup_len (l := a :: L) (m := g) (List.nodup_cons.mpr ⟨hna, GL.nd⟩) fun b hb => by
          rcases List.mem_cons.mp hb with rfl | hb
          · exact ha
          · exact hs b hb
        rw [List.length_cons] at this
        omega
      exact e ▸ hl
    | succ n ih =>
      intro L hl hs hn
      by_cases hall : ∀ a ∈ g, a ∈ L
      · have GL := isG_of (h2 L hl)
        have e : L = g := grp_eq GL G fun a => ⟨hs a, hall a⟩
        exact e ▸ hl
      · obtain ⟨x, hx⟩ := Classical.not_forall.mp hall
        obtain ⟨hxg, hxL⟩ := Classical.not_imp.mp hx
        rcases h3 L hl x (mem_alls.mpr (G.el x hxg)) with q | ⟨q1, q2⟩
        · exact absurd q hxL
        · refine ih (ext w L x) q1 (fun a ha => ext_sub G hs hxg ha) ?_
          have := nodup_len (isG_of (h2 _ q1)).nd (m := g) fun a ha => ext_sub G hs hxg ha
          omega
  exact key g.length [zr w] h1 (fun a ha => by rw [List.mem_singleton.mp ha]; exact G.zero) (by omega)
end
/-! ### sums over places -/
section
def gt (xs : List Int) (k : Nat) : Int := xs.getD k 0
def sm : Nat → (Nat → Int) → Int
  | 0, _ => 0
  | n + 1, f => sm n f + f n
theorem sm_congr {f h : Nat → Int} : ∀ {n : Nat}, (∀ k, k < n → f k = h k) → sm n f = sm n h
  | 0, _ => rfl
  | n + 1, e => by unfold sm; rw [sm_congr fun k hk => e k (by omega), e n (by omega)]
theorem sm_add {f h : Nat → Int} : ∀ {n : Nat}, sm n (fun k => f k + h k) = sm n f + sm n h
  | 0 => rfl
  | n + 1 => by
    show sm n (fun k => f k + h k) + (f n + h n) = sm n f + f n + (sm n h + h n)
    rw [sm_add]; omega
theorem sm_mul {f : Nat → Int} {c : Int} : ∀ {n : Nat}, sm n (fun k => f k * c) = sm n f * c
  | 0 => by unfold sm; rw [Int.zero_mul]
  | n + 1 => by
    show sm n (fun k => f k * c) + f n * c = (sm n f + f n) * c
    rw [sm_mul, Int.add_mul]
theorem sm_zero : ∀ {n : Nat}, sm n (fun _ => 0) = 0
  | 0 => rfl
  | n + 1 => by unfold sm; rw [sm_zero]; rfl
theorem sm_swap {f : Nat → Nat → Int} {m : Nat} : ∀ {n : Nat}, sm n (fun k => sm m (fun j => f k j)) = sm m (fun j => sm n (fun k => f k j))
  | 0 => by show (0 : Int) = sm m (fun _ => (0 : Int)); exact sm_zero.symm
  | n + 1 => by
    show sm n (fun k => sm m (fun j => f k j)) + sm m (fun j => f n j) = sm m (fun j => sm n (fun k => f k j) + f n j)
    rw [sm_add, sm_swap]
theorem sm_front {f : Nat → Int} : ∀ {n : Nat}, sm (n + 1) f = f 0 + sm n (fun k => f (k + 1))
  | 0 => by show (0 : Int) + f 0 = f 0 + 0; omega
  | n + 1 => by
    have := sm_front (f := f) (n := n)
    show sm (n + 1) f + f (n + 1) = f 0 + (sm n (fun k => f (k + 1)) + f (n + 1))
    rw [this]; omega
/-- alike up to what d takes -/
def cg (d a b : Int) : Prop := ∃ q, a = b + d * q
theorem cg.refl (d a : Int) : cg d a a := ⟨0, by rw [Int.mul_zero, Int.add_zero]⟩
theorem cg.symm {d a b : Int} (h : cg d a b) : cg d b a := by
  obtain ⟨q, e⟩ := h
  exact ⟨-q, by rw [e, Int.mul_neg]; omega⟩
theorem cg.trans {d a b c : Int} (h : cg d a b) (h' : cg d b c) : cg d a c := by
  obtain ⟨q, e⟩ := h; obtain ⟨r, e'⟩ := h'
  exact ⟨q + r, by rw [e, e', Int.mul_add]; omega⟩
theorem cg.sm {d : Int} {f h : Nat → Int} : ∀ {n : Nat}, (∀ k, k < n → cg d (f k) (h k)) → cg d (sm n f) (sm n h)
  | 0, _ => cg.refl _ _
  | n + 1, e => by
    obtain ⟨q, e1⟩ := cg.sm (n := n) fun k hk => e k (by omega)
    obtain ⟨r, e2⟩ := e n (by omega)
    refine ⟨q + r, ?_⟩
    show T.sm n f + f n = T.sm n h + h n + d * (q + r)
    rw [e1, e2, Int.mul_add]
    omega
theorem cg.mul {d a b : Int} (h : cg d a b) (c : Int) : cg d (a * c) (b * c) := by
  obtain ⟨q, e⟩ := h
  exact ⟨q * c, by rw [e, Int.add_mul, Int.mul_assoc]⟩
theorem cg.mulL {d a b : Int} (h : cg d a b) (c : Int) : cg (d * c) (a * c) (b * c) := by
  obtain ⟨q, e⟩ := h
  exact ⟨q, by rw [e, Int.add_mul]; congr 1; rw [Int.mul_assoc, Int.mul_comm q c, ← Int.mul_assoc]⟩
theorem cg.mod (d a : Int) : cg d (a % d) a := ⟨-(a / d), by have := Int.emod_add_mul_ediv a d; rw [Int.mul_neg]; omega⟩
theorem cg.eq {d a b : Int} (h : cg d a b) : a % d = b % d := by
  obtain ⟨q, e⟩ := h
  rw [e, Int.add_mul_emod_self_left]
theorem cg.add {d a b a' b' : Int} (h : cg d a b) (h' : cg d a' b') : cg d (a + a') (b + b') := by
  obtain ⟨q, e⟩ := h; obtain ⟨r, e'⟩ := h'
  exact ⟨q + r, by rw [e, e', Int.mul_add]; omega⟩
theorem El.gt : ∀ {w x : List Int}, El w x → ∀ k, k < w.length → 0 ≤ gt x k ∧ gt x k < gt w k
  | [], [], _, k, h => absurd h (Nat.not_lt_zero _)
  | n :: w, a :: x, h, 0, _ => h.1
  | n :: w, a :: x, h, k + 1, hk => El.gt h.2 k (by simpa using hk)
theorem ad_gt : ∀ {w x y : List Int}, El w x → El w y → ∀ k, k < w.length → gt (ad w x y) k = (gt x k + gt y k) % gt w k
  | [], [], [], _, _, k, h => absurd h (Nat.not_lt_zero _)
  | n :: w, a :: x, b :: y, h, h', 0, _ => rfl
  | n :: w, a :: x, b :: y, h, h', k + 1, hk => ad_gt h.2 h'.2 k (by simpa using hk)
theorem El.of_gt : ∀ {w x : List Int}, x.length = w.length → (∀ k, k < w.length → 0 ≤ T.gt x k ∧ T.gt x k < T.gt w k) → El w x
  | [], [], _, _ => trivial
  | [], _ :: _, h, _ => by simp at h
  | _ :: _, [], h, _ => by simp at h
  | n :: w, a :: x, h, hk => ⟨hk 0 (by simp), El.of_gt (by simpa using h) fun k h' => hk (k + 1) (by simpa using h')⟩
theorem ext_gt : ∀ {x y : List Int}, x.length = y.length → (∀ k, k < y.length → gt x k = gt y k) → x = y
  | [], [], _, _ => rfl
  | [], _ :: _, h, _ => by simp at h
  | _ :: _, [], h, _ => by simp at h
  | a :: x, b :: y, h, hk => by
    have e : a = b := hk 0 (by simp)
    rw [e, ext_gt (by simpa using h) fun k h' => hk (k + 1) (by simpa using h')]
theorem gt_zr {w : List Int} : ∀ k, gt (zr w) k = 0 := fun k => by
  unfold gt zr
  rw [List.getD_eq_getElem?_getD, List.getElem?_map]
  cases w[k]? <;> rfl
/-- wheels that are right for e -/
structure WF (w : List Int) (e : Int) : Prop where
  len : w.length ≤ 20
  e0 : 0 < e
  e64 : e ≤ 64
  ex : m_exponent_of w = some e
  dv : ∀ k, k < w.length → 0 < gt w k ∧ gt w k ≤ 64 ∧ e % gt w k = 0
theorem WF.q {w : List Int} {e : Int} (W : WF w e) {k : Nat} (hk : k < w.length) : gt w k * (e / gt w k) = e := by
  have := (W.dv k hk).2.2
  have h2 := Int.emod_add_mul_ediv e (gt w k)
  omega
def ms (e : Int) (w x y : List Int) : Int := sm w.length fun k => gt x k * gt y k * (e / gt w k)
theorem ms_comm (e : Int) (w x y : List Int) : ms e w x y = ms e w y x := sm_congr fun k _ => by rw [Int.mul_comm (gt x k)]
theorem ms_ad {w x y z : List Int} {e : Int} (W : WF w e) (hy : El w y) (hz : El w z) : cg e (ms e w x (ad w y z)) (ms e w x y + ms e w x z) := by
  unfold ms
  rw [← sm_add]
  refine cg.sm fun k hk => ?_
  rw [ad_gt hy hz k hk]
  obtain ⟨q, e1⟩ := cg.mod (gt w k) (gt y k + gt z k)
  refine ⟨gt x k * q, ?_⟩
  have e2 := W.q hk
  rw [e1]
  generalize gt x k = a at *
  generalize gt y k = b at *
  generalize gt z k = c at *
  generalize e / gt w k = r at *
  generalize gt w k = n at *
  rw [← e2]
  simp only [Int.mul_add, Int.add_mul]
  have : a * (n * q) * r = n * r * (a * q) := by ac_rfl
  omega
end
/-! ### maps -/
section
theorem irange0 (n : Nat) : irange 0 (n : Int) = (List.range n).map fun k : Nat => (k : Int) := by
  unfold irange
  rw [show ((n : Int) - 0).toNat = n by omega]
  refine List.map_congr_left fun k _ => ?_
  omega
theorem forF_app {α β : Type} {F : α → List β → Option (List β)} {g : α → β} : ∀ {ks : List α} {s : List β}, s.length + ks.length ≤ 1000 → (∀ x ∈ ks, ∀ s : List β, s.length + 1 ≤ 1000 → F x s = some (s ++ [g x])) → forF F ks s = some (s ++ ks.map g)
  | [], s, _, _ => by rw [List.map_nil, List.append_nil]; rfl
  | x :: xs, s, hl, h => by
    rw [List.length_cons] at hl
    unfold forF
    rw [h x (by simp) s (by omega)]
    dsimp only
    rw [forF_app (by rw [List.length_append, List.length_singleton]; omega) fun y hy => h y (by simp [hy]), List.append_assoc, List.map_cons, List.singleton_append]
theorem lcF_filt {α : Type} {f : α → Option (Option α)} {p : α → Bool} : ∀ {xs : List α}, (∀ x ∈ xs, f x = some (bif p x then some x else none)) → lcF f xs = some (xs.filter p)
  | [], _ => rfl
  | x :: xs, h => by
    unfold lcF
    rw [h x (by simp), lcF_filt fun y hy => h y (by simp [hy])]
    cases e : p x <;> simp [e]
def rw' (I : List (List Int)) (k : Nat) : List Int := I.getD k []
def img (I : List (List Int)) (k j : Nat) : Int := gt (rw' I k) j
theorem idx_rw {I : List (List Int)} {k : Nat} (h : k < I.length) : idx I (k : Int) = some (rw' I k) := by
  rw [idx_nat (by omega) (by omega)]
  unfold rw'
  congr 1
  rw [List.getD_eq_getElem?_getD, List.getElem?_eq_getElem h]
  rfl
theorem idx_gt {x : List Int} {k : Nat} (h : k < x.length) : idx x (k : Int) = some (gt x k) := by
  rw [idx_nat (by omega) (by omega)]
  unfold gt
  congr 1
  rw [List.getD_eq_getElem?_getD, List.getElem?_eq_getElem h]
  rfl
structure Im (w o : List Int) (I : List (List Int)) : Prop where
  len : I.length = w.length
  el : ∀ k, k < w.length → El o (rw' I k)
  dv : ∀ k j, k < w.length → j < o.length → (gt w k * img I k j) % gt o j = 0
def mmE (w o : List Int) (I : List (List Int)) (j k : Nat) : Int := (img I k j * gt w k / gt o j) % gt w k
def mm (w o : List Int) (I : List (List Int)) : List (List Int) := (List.range o.length).map fun j => (List.range w.length).map fun k => mmE w o I j k
variable {w o : List Int} {I : List (List Int)} {e f : Int}
theorem mm_row {j : Nat} (hj : j < o.length) : rw' (mm w o I) j = (List.range w.length).map fun k => mmE w o I j k := by
  unfold rw' mm
  rw [List.getD_eq_getElem?_getD, List.getElem?_map, List.getElem?_range hj]
  rfl
theorem mm_img {j k : Nat} (hj : j < o.length) (hk : k < w.length) : img (mm w o I) j k = mmE w o I j k := by
  unfold img
  rw [mm_row hj]
  unfold gt
  rw [List.getD_eq_getElem?_getD, List.getElem?_map, List.getElem?_range hk]
  rfl
theorem mmE_el (W : WF w e) {j k : Nat} (hk : k < w.length) : 0 ≤ mmE w o I j k ∧ mmE w o I j k < gt w k := by
  have := (W.dv k hk).1
  unfold mmE
  exact ⟨Int.emod_nonneg _ (by omega), Int.emod_lt_of_pos _ this⟩
/-- the exact part -/
theorem mmE_q (O : WF o f) (hI : Im w o I) {j k : Nat} (hj : j < o.length) (hk : k < w.length) : ∃ t, gt o j * mmE w o I j k = img I k j * gt w k - gt o j * (gt w k * t) := by
  have h1 := hI.dv k j hk hj
  rw [Int.mul_comm] at h1
  have h2 := Int.emod_add_mul_ediv (img I k j * gt w k) (gt o j)
  refine ⟨img I k j * gt w k / gt o j / gt w k, ?_⟩
  unfold mmE
  have h3 := Int.emod_add_mul_ediv (img I k j * gt w k / gt o j) (gt w k)
  rw [show (img I k j * gt w k / gt o j) % gt w k = img I k j * gt w k / gt o j - gt w k * (img I k j * gt w k / gt o j / gt w k) by omega, Int.mul_sub]
  rw [show gt o j * (img I k j * gt w k / gt o j) = img I k j * gt w k by omega]
theorem mm_im (W : WF w e) (O : WF o f) (hI : Im w o I) : Im o w (mm w o I) := by
  refine ⟨by unfold mm; rw [List.length_map, List.length_range], fun j hj => El.of_gt ?_ fun k hk => ?_, fun j k hj hk => ?_⟩
  · rw [mm_row hj, List.length_map, List.length_range]
  · have := mmE_el (o := o) (I := I) (j := j) W hk
    rw [← mm_img hj hk] at this
    exact this
  · rw [mm_img hj hk]
    obtain ⟨t, h⟩ := mmE_q O hI hj hk
    have e2 : img I k j * gt w k - gt o j * (gt w k * t) = gt w k * (img I k j - gt o j * t) := by
      rw [Int.mul_sub, Int.mul_comm (img I k j), Int.mul_left_comm (gt o j)]
    rw [h, e2, Int.mul_emod_right]
theorem list_ext {A B : List (List Int)} (hl : A.length = B.length) (h : ∀ k, k < B.length → rw' A k = rw' B k) : A = B := by
  refine List.ext_getElem hl fun k h1 h2 => ?_
  have := h k h2
  unfold rw' at this
  rw [List.getD_eq_getElem?_getD, List.getD_eq_getElem?_getD, List.getElem?_eq_getElem h1, List.getElem?_eq_getElem h2] at this
  exact this
theorem mm_mm (W : WF w e) (O : WF o f) (hI : Im w o I) : mm o w (mm w o I) = I := by
  have l1 : (mm o w (mm w o I)).length = w.length := by unfold mm; rw [List.length_map, List.length_range]
  refine list_ext (l1.trans hI.len.symm) fun k hk => ?_
  have hk' : k < w.length := by rw [← hI.len]; exact hk
  rw [mm_row hk']
  have el := hI.el k hk'
  refine ext_gt (by rw [List.length_map, List.length_range, el.len]) fun j hj => ?_
  have hj' : j < o.length := by rw [← el.len]; exact hj
  have e1 : gt ((List.range o.length).map fun k_1 => mmE o w (mm w o I) k k_1) j = mmE o w (mm w o I) k j := by
    unfold gt
    rw [List.getD_eq_getElem?_getD, List.getElem?_map, List.getElem?_range hj']
    rfl
  rw [e1]
  show (img (mm w o I) j k * gt o j / gt w k) % gt o j = img I k j
  rw [mm_img hj' hk']
  obtain ⟨t, h⟩ := mmE_q O hI hj' hk'
  have b := el.gt j hj'
  have b2 : 0 ≤ img I k j ∧ img I k j < gt o j := b
  have wp := (W.dv k hk').1
  have e2 : mmE w o I j k * gt o j = gt w k * (img I k j - gt o j * t) := by
    rw [Int.mul_comm, h, Int.mul_sub, Int.mul_comm (img I k j), Int.mul_left_comm (gt o j)]
  rw [e2, Int.mul_ediv_cancel_left _ (by omega), Int.sub_mul_emod_self_left, Int.emod_eq_of_lt b2.1 b2.2]
/-! times -/
def tm : List Int → Int → List Int → List Int
  | n :: w, k, a :: x => (k * a) % n :: tm w k x
  | _, _, _ => []
theorem tm_el {k : Int} : ∀ {w x : List Int}, El w x → El w (tm w k x)
  | [], [], _ => trivial
  | n :: w, a :: x, h => by
    have hn : (0 : Int) < n := by have := h.1; omega
    exact ⟨⟨Int.emod_nonneg _ (Int.ne_of_gt hn), Int.emod_lt_of_pos _ hn⟩, tm_el h.2⟩
theorem tm_gt {k : Int} : ∀ {w x : List Int}, El w x → ∀ i, i < w.length → gt (tm w k x) i = (k * gt x i) % gt w i
  | [], [], _, i, h => absurd h (Nat.not_lt_zero _)
  | n :: w, a :: x, h, 0, _ => rfl
  | n :: w, a :: x, h, i + 1, hi => tm_gt h.2 i (by simpa using hi)
theorem tm_zero {k : Int} {x : List Int} (h : El w x) : tm w k x = zr w ↔ ∀ i, i < w.length → (k * gt x i) % gt w i = 0 := by
  constructor
  · intro e i hi
    rw [← tm_gt h i hi, e, gt_zr]
  · intro hh
    refine ext_gt ((tm_el h).len.trans (by unfold zr; rw [List.length_map])) fun i hi => ?_
    have hi' : i < w.length := by unfold zr at hi; rw [List.length_map] at hi; exact hi
    rw [tm_gt h i hi', hh i hi', gt_zr]
theorem tmL_eq {k : Int} (hk : k.natAbs < 128) : ∀ {w x : List Int}, El w x → (∀ i, i < w.length → gt w i ≤ 64) → lcF (fun (x446 : (Int × Int)) => (pmul k x446.1).bind fun n447 => (pmod n447 x446.2).bind fun n448 => some (some n448)) (x.zip w) = some (tm w k x)
  | [], [], _, _ => rfl
  | n :: w, a :: x, h, hb => by
    have hn : (0 : Int) < n := by have := h.1; omega
    have h64 : n ≤ 64 := hb 0 (by simp)
    have p7 : (2 : Nat) ^ 7 = 128 := rfl
    show lcF _ ((a, n) :: x.zip w) = _
    unfold lcF
    rw [tmL_eq hk h.2 fun i hi => hb (i + 1) (by simpa using hi)]
    dsimp only
    rw [pmul_b 7 7 (by omega) (by have := h.1; omega), Option.bind_some, pmod_p hn]
    rfl
theorem times_eq (W : WF w e) {k : Int} {x : List Int} (hk : k.natAbs < 128) (h : El w x) : m_times_element w k x = some (tm w k x) := by
  have hz : (x.zip w).length ≤ 20 := by rw [List.length_zip, h.len]; have := W.len; omega
  unfold m_times_element
  exact bind_of () (szL_ok (by omega)) (bind_of _ (tmL_eq hk h fun i hi => (W.dv i hi).2.1) rfl)
theorem ltimes_eq (W : WF w e) {k : Int} {x : List Int} (hk : k.natAbs < 128) (h : El w x) : m__law_times w k x = some (tm w k x) := times_eq W hk h
theorem WF.okL (W : WF w e) : okL w := by have := W.len; unfold T.okL; omega
end
/-! ### the list of all groups within -/
section
abbrev mkT {κ : Type} (fk : List κ) : List (κ × Bool) := fk.map fun x => (x, true)
theorem dget_mkT {κ : Type} [DecidableEq κ] (fk : List κ) (x : κ) : (dget (mkT fk) x).isSome = true ↔ x ∈ fk := by
  induction fk with
  | nil => simp [dget]
  | cons y ys ih =>
    by_cases h : y = x
    · subst h; simp [dget]
    · have h2 : ¬ x = y := fun e => h e.symm
      have : (dget (mkT (y :: ys)) x) = dget (mkT ys) x := by simp [dget, List.find?_cons, h]
      rw [this, ih]
      simp [h2]
theorem dget_no {κ : Type} [DecidableEq κ] {fk : List κ} {x : κ} (h : x ∉ fk) : (dget (mkT fk) x).isSome = false := by
  cases e : (dget (mkT fk) x).isSome with
  | false => rfl
  | true => exact absurd ((dget_mkT fk x).mp e) h
theorem dput_mkT {κ : Type} [DecidableEq κ] {fk : List κ} {x : κ} (h : x ∉ fk) : dput (mkT fk) x true = mkT (fk ++ [x]) := by
  unfold dput
  rw [dget_any, dget_no h]
  simp
theorem keys_mkT {κ : Type} (fk : List κ) : (mkT fk).map (·.1) = fk := by
  rw [List.map_map]
  exact List.map_id' fk
abbrev Gp := List (List Int)
abbrev leK (a b : Gp) : Bool := leD (keyD ((eT (eT PyData.int)) a)) (keyD ((eT (eT PyData.int)) b))
theorem leK_total : PySem.W.TotalLe leK := ⟨fun a b c h1 h2 => leD_total.trans _ _ _ h1 h2, fun a b => leD_total.total _ _⟩
theorem sorted_strict {α : Type} {le : α → α → Bool} : ∀ {xs ys : List α}, xs.Perm ys → xs.Pairwise (fun a b => le a b = true) → ys.Pairwise (fun a b => le b a = false) → xs = ys
  | [], ys, h, _, _ => (List.Perm.eq_nil h.symm).symm
  | x :: xs, [], h, _, _ => absurd h.length_eq (by simp)
  | x :: xs, y :: ys, h, hx, hy => by
    have e : x = y := Classical.byContradiction fun ne => by
      have h1 : y ∈ xs := (List.mem_cons.mp (h.mem_iff.mpr List.mem_cons_self)).resolve_left fun e => ne e.symm
      have h2 : x ∈ ys := (List.mem_cons.mp (h.mem_iff.mp List.mem_cons_self)).resolve_left ne
      have a1 := (List.pairwise_cons.mp hx).1 y h1
      rw [(List.pairwise_cons.mp hy).1 x h2] at a1
      cases a1
    subst e
    rw [sorted_strict h.cons_inv (List.pairwise_cons.mp hx).2 (List.pairwise_cons.mp hy).2]
def chS : List Gp → Bool
  | a :: b :: l => !leK b a && chS (b :: l)
  | _ => true
theorem chS_pair : ∀ {l : List Gp}, chS l = true → l.Pairwise (fun a b => leK b a = false)
  | [], _ => .nil
  | [a], _ => List.pairwise_singleton ..
  | a :: b :: l, h => by
    have h := Bool.and_eq_true_iff.mp (show (!leK b a && chS (b :: l)) = true from h)
    have hab : leK b a = false := by simpa using h.1
    have ih := chS_pair h.2
    refine List.pairwise_cons.mpr ⟨fun c hc => ?_, ih⟩
    rcases List.mem_cons.mp hc with rfl | hc
    · exact hab
    · have hbc := (List.pairwise_cons.mp ih).1 c hc
      cases z : leK c a with
      | false => rfl
      | true =>
        have t : leK a b = true := (leK_total.total a b).resolve_right fun q => by rw [hab] at q; cases q
        have := leK_total.trans c a b z t
        rw [hbc] at this; cases this
theorem keyOk_mem {xs ys : List D} (h : ∀ x, x ∈ xs → x ∈ ys) (hy : keyOk ys = true) : keyOk xs = true := by
  unfold keyOk srtK at *
  simp only [Bool.and_eq_true, List.all_eq_true, List.mem_map] at *
  obtain ⟨⟨⟨h1, h2⟩, h3⟩, h4⟩ := hy
  have up : ∀ d, (∃ a, a ∈ xs ∧ keyD a = d) → ∃ a, a ∈ ys ∧ keyD a = d := fun d ⟨a, m, e⟩ => ⟨a, h a m, e⟩
  exact ⟨⟨⟨fun d hd d' hd' => h1 d (up d hd) d' (up d' hd'), fun d hd => h2 d (up d hd)⟩, fun d hd => h3 d (up d hd)⟩, fun d hd => h4 d (h d hd)⟩
variable {w : List Int} {N : Nat}
def mks (w : List Int) (items : Gp) : Gp := (m_made_by w items).getD []
theorem mks_eq (F : Few w N) {items : Gp} (hi : ∀ i ∈ items, El w i) : m_made_by w items = some (mks w items) ∧ Grp w (mks w items) ∧ ∀ a, a ∈ mks w items ↔ Rch w items a := by
  obtain ⟨g, e, G, h⟩ := made_spec F hi
  have : mks w items = g := by unfold mks; rw [e]; rfl
  rw [this]
  exact ⟨e, G, h⟩
structure Gi (w : List Int) (M c : Nat) (g : Gp) (done : Gp) (fk wt : List Gp) : Prop where
  nd : fk.Nodup
  wn : wt.Nodup
  sub : ∀ h ∈ wt, h ∈ fk
  gr : ∀ h ∈ fk, Grp w h
  zero : [zr w] ∈ fk
  gin : g ∈ fk
  gno : g ∉ wt
  cl : ∀ h ∈ fk, h ∉ wt → h ≠ g → ∀ x, El w x → x ∉ h → mks w (h ++ [x]) ∈ fk
  got : ∀ x ∈ done, x ∉ g → mks w (g ++ [x]) ∈ fk
  mu : wt.length + 2 * (M - fk.length) ≤ c
theorem groups_inner (F : Few w N) {lit : List Gp} (hl : ∀ g, Grp w g → g ∈ lit) (hM : lit.length ≤ 1000) {c : Nat} {g : Gp} : ∀ (todo done : Gp) (fk wt : List Gp), (∀ x ∈ todo, El w x) → Gi w lit.length c g done fk wt →
    ∃ fk' wt', forF (fun (x109 : (List Int)) (s108 : (List ((List (List Int)) × Bool)) × (List (List (List Int)))) => (bif (!decide (x109 ∈ g)) then (szOk (g.length + [x109].length)).bind fun u137 => (m_made_by w (g ++ [x109])).bind fun r138 => (bif (!(dget s108.1 r138).isSome) then (szOk (s108.1.length + 1)).bind fun u142 => (szOk (s108.2.length + 1)).bind fun u143 => some ((dput s108.1 r138 true), (s108.2 ++ [r138])) else some (s108.1, s108.2)).bind fun (s141 : (List ((List (List Int)) × Bool)) × (List (List (List Int)))) => some (s141.1, s141.2) else some (s108.1, s108.2)).bind fun (s136 : (List ((List (List Int)) × Bool)) × (List (List (List Int)))) => some (s136.1, s136.2)) todo (mkT fk, wt) = some (mkT fk', wt') ∧ Gi w lit.length c g (done ++ todo) fk' wt'
  | [], done, fk, wt, _, h => ⟨fk, wt, rfl, by rw [List.append_nil]; exact h⟩
  | x :: todo, done, fk, wt, hs, h => by
    have hN := F.le
    have G := h.gr g h.gin
    have gl := F.few g G.nd G.el
    have ex := hs x (by simp)
    have lit' : ∀ {fk : List Gp}, fk.Nodup → (∀ h ∈ fk, Grp w h) → fk.length ≤ lit.length := fun hn hg => nodup_len hn fun a ha => hl a (hg a ha)
    have fl := lit' h.nd h.gr
    have wl := nodup_len h.wn h.sub
    by_cases hx : x ∈ g
    · have nx : Gi w lit.length c g (done ++ [x]) fk wt := ⟨h.nd, h.wn, h.sub, h.gr, h.zero, h.gin, h.gno, h.cl, fun y hy hn => (List.mem_append.mp hy).elim (fun hy => h.got y hy hn) fun hy => absurd (List.mem_singleton.mp hy ▸ hx) hn, h.mu⟩
      obtain ⟨fk', wt', e, q⟩ := groups_inner F hl hM todo (done ++ [x]) fk wt (fun y hy => hs y (by simp [hy])) nx
      refine ⟨fk', wt', ?_, by rw [List.append_assoc] at q; exact q⟩
      unfold forF
      dsimp only
      rw [decide_eq_true hx]
      exact e
    · have hi : ∀ i ∈ g ++ [x], El w i := fun i hi => by
        rcases List.mem_append.mp hi with hi | hi
        · exact G.el i hi
        · rw [List.mem_singleton.mp hi]; exact ex
      obtain ⟨m1, m2, m3⟩ := mks_eq F hi
      have hz : szOk (g.length + [x].length) = some () := szOk_ok (by simp; omega)
      by_cases hin : mks w (g ++ [x]) ∈ fk
      · have nx : Gi w lit.length c g (done ++ [x]) fk wt := ⟨h.nd, h.wn, h.sub, h.gr, h.zero, h.gin, h.gno, h.cl, fun y hy hn => (List.mem_append.mp hy).elim (fun hy => h.got y hy hn) fun hy => by rw [List.mem_singleton.mp hy]; exact hin, h.mu⟩
        obtain ⟨fk', wt', e, q⟩ := groups_inner F hl hM todo (done ++ [x]) fk wt (fun y hy => hs y (by simp [hy])) nx
        refine ⟨fk', wt', ?_, by rw [List.append_assoc] at q; exact q⟩
        unfold forF
        dsimp only
        rw [decide_eq_false hx, hz, m1]
        simp only [Bool.not_false, cond_true, Option.bind_some]
        rw [(dget_mkT fk _).mpr hin]
        exact e
      · have nw : mks w (g ++ [x]) ∉ wt := fun z => hin (h.sub _ z)
        have app : ∀ {l : List Gp}, l.Nodup → mks w (g ++ [x]) ∉ l → (l ++ [mks w (g ++ [x])]).Nodup := fun hn hno => by
          rw [List.nodup_append]
          refine ⟨hn, by simp, fun a ha b hb e => ?_⟩
          rw [List.mem_singleton] at hb
          exact hno (hb ▸ e ▸ ha)
        have nd' := app h.nd hin
        have gr' : ∀ k ∈ fk ++ [mks w (g ++ [x])], Grp w k := fun k hk => by
          rcases List.mem_append.mp hk with hk | hk
          · exact h.gr k hk
          · rw [List.mem_singleton.mp hk]; exact m2
        have fl' := lit' nd' gr'
        rw [List.length_append, List.length_singleton] at fl'
        have ng : g ≠ mks w (g ++ [x]) := fun e => hx (by
          rw [e, m3]; exact Rch.item hi (by simp))
        have nx : Gi w lit.length c g (done ++ [x]) (fk ++ [mks w (g ++ [x])]) (wt ++ [mks w (g ++ [x])]) := by
          refine ⟨nd', app h.wn nw, fun k hk => ?_, gr', List.mem_append_left _ h.zero, List.mem_append_left _ h.gin, fun z => ?_, fun k hk hn hne y hy hyk => ?_, fun y hy hn => ?_, ?_⟩
          · rcases List.mem_append.mp hk with hk | hk
            · exact List.mem_append_left _ (h.sub k hk)
            · exact List.mem_append_right _ hk
          · rcases List.mem_append.mp z with z | z
            · exact h.gno z
            · exact ng (List.mem_singleton.mp z)
          · rcases List.mem_append.mp hk with hk | hk
            · exact List.mem_append_left _ (h.cl k hk (fun z => hn (List.mem_append_left _ z)) hne y hy hyk)
            · exact absurd (List.mem_append_right _ hk) hn
          · rcases List.mem_append.mp hy with hy | hy
            · exact List.mem_append_left _ (h.got y hy hn)
            · rw [List.mem_singleton.mp hy]; simp
          · have := h.mu
            rw [List.length_append, List.length_append, List.length_singleton]
            omega
        obtain ⟨fk', wt', e, q⟩ := groups_inner F hl hM todo (done ++ [x]) _ _ (fun y hy => hs y (by simp [hy])) nx
        refine ⟨fk', wt', ?_, by rw [List.append_assoc] at q; exact q⟩
        unfold forF
        dsimp only
        rw [decide_eq_false hx, hz, m1]
        simp only [Bool.not_false, cond_true, Option.bind_some]
        rw [dget_no hin]
        have z1 : szOk ((mkT fk).length + 1) = some () := szOk_ok (by rw [List.length_map]; omega)
        have z2 : szOk (wt.length + 1) = some () := szOk_ok (by omega)
        simp only [Bool.not_false, cond_true, z1, z2, Option.bind_some, dput_mkT hin]
        exact e
theorem closed_all (F : Few w N) {fk : List Gp} (gr : ∀ h ∈ fk, Grp w h) (zero : [zr w] ∈ fk) (cl : ∀ h ∈ fk, ∀ x, El w x → x ∉ h → mks w (h ++ [x]) ∈ fk) {G : Gp} (hG : Grp w G) : G ∈ fk := by
  have key : ∀ (n : Nat) (L : Gp), L ∈ fk → (∀ a ∈ L, a ∈ G) → G.length - L.length ≤ n → G ∈ fk := by
    intro n
    induction n with
    | zero =>
      intro L hl hs hn
      have GL := gr L hl
      have e : L = G := by
        refine grp_eq GL hG fun a => ⟨hs a, fun ha => Classical.byContradiction fun hna => ?_⟩
        have := nodup_len (l := a :: L) (m := G) (List.nodup_cons.mpr ⟨hna, GL.nd⟩) fun b hb => by
          rcases List.mem_cons.mp hb with rfl | hb
          · exact ha
          · exact hs b hb
        rw [List.length_cons] at this
        omega
      exact e ▸ hl
    | succ n ih =>
      intro L hl hs hn
      have GL := gr L hl
      by_cases hall : ∀ a ∈ G, a ∈ L
      · have e : L = G := grp_eq GL hG fun a => ⟨hs a, hall a⟩
        exact e ▸ hl
      · obtain ⟨x, hx⟩ := Classical.not_forall.mp hall
        obtain ⟨hxg, hxL⟩ := Classical.not_imp.mp hx
        have hi : ∀ i ∈ L ++ [x], i ∈ G := fun i hi => by
          rcases List.mem_append.mp hi with hi | hi
          · exact hs i hi
          · rw [List.mem_singleton.mp hi]; exact hxg
        obtain ⟨_, m2, m3⟩ := mks_eq F (items := L ++ [x]) fun i z => hG.el i (hi i z)
        have sub : ∀ a ∈ mks w (L ++ [x]), a ∈ G := fun a ha => ((m3 a).mp ha).within hG hi
        refine ih _ (cl L hl x (hG.el x hxg) hxL) sub ?_
        have l1 := nodup_len m2.nd sub
        have l2 := nodup_len (l := x :: L) (m := mks w (L ++ [x])) (List.nodup_cons.mpr ⟨hxL, GL.nd⟩) fun b hb => (m3 b).mpr (Rch.item (fun i z => hG.el i (hi i z)) (by
          rcases List.mem_cons.mp hb with rfl | hb
          · simp
          · simp [hb]))
        rw [List.length_cons] at l2
        omega
  exact key G.length [zr w] zero (fun a ha => by rw [List.mem_singleton.mp ha]; exact hG.zero) (by omega)
theorem groups_eq (F : Few w N) (hall : m_elements_of w = some (alls w)) {lit : List Gp} (hl : ∀ g, Grp w g → g ∈ lit) (hg : ∀ g ∈ lit, Grp w g) (hM : lit.length ≤ 1000) (hn : lit.Nodup) (hs : chS lit = true) (hk : keyOk (lit.map (eT (eT PyData.int))) = true) : m_groups_within w = some lit := by
  have z0 : Grp w [zr w] := by
    refine ⟨fun a ha => by rw [List.mem_singleton.mp ha]; exact F.z, List.mem_singleton.mpr rfl, fun a ha b hb => ?_, List.pairwise_singleton .., List.pairwise_singleton ..⟩
    rw [List.mem_singleton.mp ha, List.mem_singleton.mp hb, ad_zero F.z]
    exact List.mem_singleton.mpr rfl
  have key := whF_inv (S := (List ((List (List Int)) × Bool)) × (List (List (List Int)))) (c := fun (s106 : (List ((List (List Int)) × Bool)) × (List (List (List Int)))) => some (decide ((0 : Int) < (s106.2.length : Int))))
    (f := fun (s106 : (List ((List (List Int)) × Bool)) × (List (List (List Int)))) => (s106.2.getLast?).bind fun x107 => (forF (fun (x109 : (List Int)) (s108 : (List ((List (List Int)) × Bool)) × (List (List (List Int)))) => (bif (!decide (x109 ∈ x107)) then (szOk (x107.length + [x109].length)).bind fun u137 => (m_made_by w (x107 ++ [x109])).bind fun r138 => (bif (!(dget s108.1 r138).isSome) then (szOk (s108.1.length + 1)).bind fun u142 => (szOk (s108.2.length + 1)).bind fun u143 => some ((dput s108.1 r138 true), (s108.2 ++ [r138])) else some (s108.1, s108.2)).bind fun (s141 : (List ((List (List Int)) × Bool)) × (List (List (List Int)))) => some (s141.1, s141.2) else some (s108.1, s108.2)).bind fun (s136 : (List ((List (List Int)) × Bool)) × (List (List (List Int)))) => some (s136.1, s136.2)) (alls w) (s106.1, s106.2.dropLast)).bind fun s144 => some (s144.1, s144.2))
    (I := fun s => ∃ fk, s.1 = mkT fk ∧ fk.Nodup ∧ s.2.Nodup ∧ (∀ h ∈ s.2, h ∈ fk) ∧ (∀ h ∈ fk, Grp w h) ∧ [zr w] ∈ fk ∧ ∀ h ∈ fk, h ∉ s.2 → ∀ x, El w x → x ∉ h → mks w (h ++ [x]) ∈ fk)
    (μ := fun s => s.2.length + 2 * (lit.length - s.1.length)) (fun s hI => by
      obtain ⟨fd, wt⟩ := s
      obtain ⟨fk, e1, nd, wn, sub, gr, zero, cl⟩ := hI
      dsimp only at e1 wn sub cl
      subst e1
      refine ⟨_, rfl, fun hb => ?_⟩
      have hne : wt ≠ [] := fun e => by subst e; exact absurd (of_decide_eq_true hb) (by simp)
      have ed : wt = wt.dropLast ++ [wt.getLast hne] := (List.dropLast_concat_getLast hne).symm
      generalize eg : wt.getLast hne = g at ed
      generalize ew : wt.dropLast = w1 at ed
      have eL : wt.getLast? = some g := by rw [List.getLast?_eq_some_getLast hne, eg]
      subst ed
      rw [List.nodup_append] at wn
      have gno : g ∉ w1 := fun z => wn.2.2 g z g (List.mem_singleton.mpr rfl) rfl
      obtain ⟨fk', wt', e, q⟩ := groups_inner F hl hM (c := w1.length + 2 * (lit.length - fk.length)) (g := g) (alls w) [] fk w1 (fun x hx => mem_alls.mp hx)
        ⟨nd, wn.1, fun h hh => sub h (by simp [hh]), gr, zero, sub g (by simp), gno, fun h hh hn hne x hx hxh => cl h hh (fun z => (List.mem_append.mp z).elim hn fun z => hne (List.mem_singleton.mp z)) x hx hxh, fun x hx => (nomatch hx), Nat.le_refl _⟩
      rw [List.nil_append] at q
      refine ⟨(mkT fk', wt'), ?_, ⟨fk', rfl, q.nd, q.wn, q.sub, q.gr, q.zero, fun h hh hn x hx hxh => ?_⟩, ?_⟩
      · exact bind_of g eL (bind_of (mkT fk', wt') e rfl)
      · by_cases c : h = g
        · subst c; exact q.got x (mem_alls.mpr hx) hxh
        · exact q.cl h hh hn c x hx hxh
      · have := q.mu
        show wt'.length + 2 * (lit.length - (mkT fk').length) < (w1 ++ [g]).length + 2 * (lit.length - (mkT fk).length)
        rw [List.length_map, List.length_map, List.length_append, List.length_singleton]
        omega) 100000 (mkT [[zr w]], [[zr w]]) (by
      show 1 + 2 * (lit.length - 1) < 100000
      omega) ⟨[[zr w]], rfl, by simp, by simp, fun h hh => hh, fun h hh => by rw [List.mem_singleton.mp hh]; exact z0, by simp, fun h hh hn => absurd hh hn⟩
  obtain ⟨⟨fd, wt⟩, e, ⟨fk, e1, nd, wn, sub, gr, zero, cl⟩, hc⟩ := key
  dsimp only at e1 wn sub cl
  subst e1
  have hw : wt = [] := by
    cases wt with
    | nil => rfl
    | cons a l =>
      have : (0 : Int) < ((a :: l).length : Int) := by rw [List.length_cons]; omega
      exact absurd (Option.some.inj hc) (by rw [decide_eq_true this]; decide)
  subst hw
  have mem : ∀ a, a ∈ fk ↔ a ∈ lit := fun a => ⟨fun h => hl a (gr a h), fun h => closed_all F gr zero (fun h hh x hx hxh => cl h hh (by simp) x hx hxh) (hg a h)⟩
  have pm : fk.Perm lit := (List.perm_ext_iff_of_nodup nd hn).mpr mem
  have es : isort leK fk = lit := sorted_strict (isort_perm.trans pm) (isort_le leK_total) (chS_pair hs)
  have ko : keyOk (fk.map (eT (eT PyData.int))) = true := keyOk_mem (fun x hx => by
    obtain ⟨a, ha, rfl⟩ := List.mem_map.mp hx
    exact List.mem_map.mpr ⟨a, (mem a).mp ha, rfl⟩) hk
  unfold m_groups_within
  refine bind_of (zr w) (nought_eq F.len) (bind_of [[zr w]] rfl (bind_of _ hall (bind_of _ e (bind_of () ?_ ?_))))
  · dsimp only
    rw [keys_mkT]
    unfold gd
    rw [ko]; rfl
  · dsimp only
    rw [keys_mkT]
    exact congrArg some es
end
/-! ### shared ends -/
section
theorem forR_inl {α ρ : Type} {f : α → Unit → Option (Unit ⊕ ρ)} : ∀ {xs : List α}, (∀ x ∈ xs, f x () = some (.inl ())) → forR f xs () = some (.inl ())
  | [], _ => rfl
  | x :: xs, h => by
    unfold forR
    rw [h x (by simp)]
    exact forR_inl fun y hy => h y (by simp [hy])
theorem forF_congr {α S : Type} {f g : α → S → Option S} : ∀ {xs : List α} {s : S}, (∀ x ∈ xs, ∀ s, f x s = g x s) → forF f xs s = forF g xs s
  | [], _, _ => rfl
  | x :: xs, s, h => by
    unfold forF
    rw [h x (by simp)]
    cases g x s with
    | none => rfl
    | some s' => exact forF_congr fun y hy => h y (by simp [hy])
theorem bind_ext {α β : Type} {o : Option α} {f g : α → Option β} (h : ∀ a, o = some a → f a = g a) : o.bind f = o.bind g := by
  cases o with
  | none => rfl
  | some a => exact h a rfl
theorem PW.mono {n m : Nat} {p : Pool} (h : PW n p) (hm : n ≤ m) : PW m p := ⟨h.a0, h.t0, by have := h.t1; omega, h.s0, h.s1⟩
theorem okD_TW {n : Nat} {ws : List (List Int)} (h : ws.length ≤ 8388608) (h2 : ∀ w ∈ ws, w.length ≤ 8388608) : okD (n + 3) (eT (eT PyData.int) ws) = true := okD_tuple (by rw [List.length_map]; exact h) fun d hd => by
  obtain ⟨w, hw, rfl⟩ := List.mem_map.mp hd; exact okD_W (h2 w hw)
theorem draw_group {w : List Int} {N : Nat} (F : Few w N) (hN : N < 100) (hall : m__law_all w = some (alls w)) (hne : alls w ≠ []) (hal : (alls w).length ≤ 1000) {n : Nat} {p : Pool} (hp : PW n p) (hn : n < 1000) : ∃ g p', m__law_group p w = some (g, p') ∧ Grp w g ∧ PW (n + 3) p' := by
  obtain ⟨v, p1, e1, v0, v1, h1⟩ := draw_ok (many := 3) hp (by omega) (by decide) (by decide)
  have il : (irange 0 v).length ≤ 2 := by simp [irange]; omega
  obtain ⟨ys, p2, e2, ly, hy, h2⟩ := lcP_ok (Q := fun y : List Int => El w y) (f := fun (x127 : Int) (p129 : Pool) => (m__law_pick p129 (alls w)).bind fun r130 => some (some (r130.1), r130.2)) (xs := irange 0 v) h1 fun x _ k p hk hk2 hp => by
    obtain ⟨y, p', e, hy, hp'⟩ := pick_ok hp hne (by omega) (by have : (2:Nat)^64 = 18446744073709551616 := rfl; omega)
    exact ⟨y, p', bind_of (y, p') e rfl, mem_alls.mp hy, hp'⟩
  obtain ⟨g, e3, G, _⟩ := lawmade_spec F hy (by omega)
  refine ⟨g, p2, ?_, G, ?_⟩
  · unfold m__law_group
    exact bind_of _ hall (bind_of (v, p1) e1 (bind_of _ (rng_ok (by decide) (by decide) (by omega) (by omega)) (bind_of (ys, p2) e2 (bind_of g e3 rfl))))
  · exact PW.mono h2 (by omega)
end
/-! ### data of a bounded kind -/
section
mutual
def cls (B : Int) (S : List Str) : D → Bool
  | .none => true
  | .bool _ => true
  | .int i => decide (-B ≤ i ∧ i ≤ B)
  | .str s => decide (s ∈ S)
  | .list ds => clsA B S ds
  | .tuple ds => clsA B S ds
  | .dict _ => false
def clsA (B : Int) (S : List Str) : List D → Bool
  | [] => true
  | d :: ds => cls B S d && clsA B S ds
end
mutual
def wt : D → Nat
  | .list ds => 1 + wtA ds
  | .tuple ds => 1 + wtA ds
  | _ => 1
def wtA : List D → Nat
  | [] => 0
  | d :: ds => wt d + wtA ds
end
mutual
def dp : D → Nat
  | .list ds => 1 + dpA ds
  | .tuple ds => 1 + dpA ds
  | _ => 0
def dpA : List D → Nat
  | [] => 0
  | d :: ds => max (dp d) (dpA ds)
end
mutual
def ml : D → Nat
  | .list ds => max ds.length (mlA ds)
  | .tuple ds => max ds.length (mlA ds)
  | _ => 0
def mlA : List D → Nat
  | [] => 0
  | d :: ds => max (ml d) (mlA ds)
end
theorem mlA_le : ∀ {ds : List D} {n : Nat}, mlA ds ≤ n ↔ ∀ d ∈ ds, ml d ≤ n
  | [], n => by simp [mlA]
  | d :: ds, n => by
    simp only [mlA, List.mem_cons, forall_eq_or_imp]
    rw [← mlA_le]
    omega
theorem wtA_app : ∀ a b : List D, wtA (a ++ b) = wtA a + wtA b
  | [], b => by simp [wtA]
  | d :: a, b => by simp only [List.cons_append, wtA, wtA_app a b]; omega
theorem wtA_take : ∀ (n : Nat) (a : List D), wtA (a.take n) ≤ wtA a
  | 0, a => by simp [wtA]
  | n + 1, [] => by simp [wtA]
  | n + 1, d :: a => by
    have := wtA_take n a
    simp only [List.take_succ_cons, wtA]; omega
theorem wtA_drop : ∀ (n : Nat) (a : List D), wtA (a.drop n) ≤ wtA a
  | 0, a => by simp
  | n + 1, [] => by simp
  | n + 1, d :: a => by
    have := wtA_drop n a
    simp only [List.drop_succ_cons, wtA]; omega
theorem wtA_cut (a : List D) (lo hi : Option Int) : wtA (cut a lo hi) ≤ wtA a := Nat.le_trans (wtA_take _ _) (wtA_drop _ _)
theorem wtA_set : ∀ (n : Nat) (a : List D) (x : D), wtA (a.set n x) ≤ wtA a + wt x
  | 0, [], x => by simp [wtA]
  | 0, d :: a, x => by simp only [List.set_cons_zero, wtA]; omega
  | n + 1, [], x => by simp [wtA]
  | n + 1, d :: a, x => by
    have := wtA_set n a x
    simp only [List.set_cons_succ, wtA]; omega
theorem wt_mem {ds : List D} {d : D} (hd : d ∈ ds) : wt d ≤ wtA ds := by
  induction ds with
  | nil => cases hd
  | cons e es ih =>
    simp only [wtA]
    rcases List.mem_cons.mp hd with rfl | hd
    · omega
    · have := ih hd
      omega
theorem mem_cut {α : Type} {a : List α} {lo hi : Option Int} {x : α} (h : x ∈ cut a lo hi) : x ∈ a := List.mem_of_mem_drop (List.mem_of_mem_take h)
theorem len_cut {α : Type} (a : List α) (lo hi : Option Int) : (cut a lo hi).length ≤ a.length := by
  unfold cut
  rw [List.length_take, List.length_drop]
  omega
theorem clsA_iff {B : Int} {S : List Str} : ∀ {ds : List D}, clsA B S ds = true ↔ ∀ d ∈ ds, cls B S d = true
  | [] => by simp [clsA]
  | d :: ds => by
    simp only [clsA, Bool.and_eq_true, List.mem_cons, forall_eq_or_imp]
    rw [clsA_iff]
theorem wtA_sum : ∀ ds : List D, wtA ds = (ds.map wt).sum
  | [] => rfl
  | d :: ds => by simp only [wtA, List.map_cons, List.sum_cons, wtA_sum ds]
theorem dpA_le : ∀ {ds : List D} {n : Nat}, dpA ds ≤ n ↔ ∀ d ∈ ds, dp d ≤ n
  | [], n => by simp [dpA]
  | d :: ds, n => by
    simp only [dpA, List.mem_cons, forall_eq_or_imp]
    rw [← dpA_le]
    omega
theorem wt_pos : ∀ d : D, 1 ≤ wt d
  | .none => by simp [wt]
  | .bool _ => by simp [wt]
  | .int _ => by simp [wt]
  | .str _ => by simp [wt]
  | .list _ => by simp [wt]
  | .tuple _ => by simp [wt]
  | .dict _ => by simp [wt]
theorem len_wtA : ∀ ds : List D, ds.length ≤ wtA ds
  | [] => Nat.le_refl _
  | d :: ds => by
    have := len_wtA ds
    have := wt_pos d
    simp only [wtA, List.length_cons]
    omega
/-- what the texts are -/
structure TxS (B : Int) (S : List Str) : Prop where
  s1 : ∀ s ∈ S, SeqAt.shaped (PyData.str s) = true
  s2 : ∀ s ∈ S, (PyData.shown (.str s)).length ≤ 40
  s3 : ∀ s ∈ S, ((PyData.shown (.str s)).cps.toList.all fun c => decide (c < 0x110000)) = true
  b0 : B < 1000000
  i2 : ∀ i : Int, -B ≤ i → i ≤ B → (PyData.shown (.int i)).length ≤ 40
  i3 : ∀ i : Int, -B ≤ i → i ≤ B → ((PyData.shown (.int i)).cps.toList.all fun c => decide (c < 0x110000)) = true
variable {B : Int} {S : List Str}
theorem lay_str {s : Str} (h : SeqAt.shaped (PyData.str s) = true) : PyData.canLay0 (.str s) = true := SeqAt.canLay_of_shaped h
mutual
theorem cls_lay (T : TxS B S) : ∀ d : D, cls B S d = true → PyData.canLay0 d = true
  | .none, _ => by simp only [PyData.canLay0]
  | .bool _, _ => by simp only [PyData.canLay0]
  | .int _, _ => by simp only [PyData.canLay0]
  | .str s, h => lay_str (T.s1 s (of_decide_eq_true (by simpa [cls] using h)))
  | .list ds, h => by
    simp only [PyData.canLay0]
    exact cls_layA T ds (by simpa [cls] using h)
  | .tuple ds, h => by
    simp only [PyData.canLay0]
    exact cls_layA T ds (by simpa [cls] using h)
  | .dict _, h => by simp [cls] at h
theorem cls_layA (T : TxS B S) : ∀ ds : List D, clsA B S ds = true → PyData.canLayAll0 ds = true
  | [], _ => by simp only [PyData.canLayAll0]
  | d :: ds, h => by
    have h := Bool.and_eq_true_iff.mp (show (cls B S d && clsA B S ds) = true by simpa [clsA] using h)
    simp only [PyData.canLayAll0, cls_lay T d h.1, cls_layA T ds h.2, Bool.and_self]
end
mutual
theorem cls_show (T : TxS B S) : ∀ d : D, cls B S d = true → PyData.showable d = true ∧ PyData.hasDict d = false
  | .none, _ => by simp only [PyData.showable, PyData.hasDict, and_self]
  | .bool _, _ => by simp only [PyData.showable, PyData.hasDict, and_self]
  | .int i, h => by
    have h : -B ≤ i ∧ i ≤ B := of_decide_eq_true (by simpa [cls] using h)
    simp only [PyData.showable, PyData.hasDict, and_true, decide_eq_true_eq]
    have := T.b0
    have h2 : i.natAbs < 2 ^ 20 := by have : (2 : Nat) ^ 20 = 1048576 := rfl; omega
    exact Nat.lt_trans (lg h2 (by decide)) (by decide)
  | .str _, _ => by simp only [PyData.showable, PyData.hasDict, and_self]
  | .list ds, h => by
    simp only [PyData.showable, PyData.hasDict]
    exact cls_showA T ds (by simpa [cls] using h)
  | .tuple ds, h => by
    simp only [PyData.showable, PyData.hasDict]
    exact cls_showA T ds (by simpa [cls] using h)
  | .dict _, h => by simp [cls] at h
theorem cls_showA (T : TxS B S) : ∀ ds : List D, clsA B S ds = true → PyData.showableAll ds = true ∧ PyData.hasDictAll ds = false
  | [], _ => by simp only [PyData.showableAll, PyData.hasDictAll, and_self]
  | d :: ds, h => by
    have h := Bool.and_eq_true_iff.mp (show (cls B S d && clsA B S ds) = true by simpa [clsA] using h)
    have a := cls_show T d h.1
    have b := cls_showA T ds h.2
    simp only [PyData.showableAll, PyData.hasDictAll, a.1, a.2, b.1, b.2, Bool.and_self, Bool.or_self, and_self]
end
mutual
theorem dp_depth : ∀ d : D, cls B S d = true → PyData.depth d ≤ dp d
  | .none, _ => by simp [PyData.depth]
  | .bool _, _ => by simp [PyData.depth]
  | .int _, _ => by simp [PyData.depth]
  | .str _, _ => by simp [PyData.depth]
  | .list ds, h => by
    have := dp_depthA ds (by simpa [cls] using h)
    simp only [PyData.depth, dp]
    omega
  | .tuple ds, h => by
    have := dp_depthA ds (by simpa [cls] using h)
    simp only [PyData.depth, dp]
    omega
  | .dict _, h => by simp [cls] at h
theorem dp_depthA : ∀ ds : List D, clsA B S ds = true → PyData.depthAll ds ≤ dpA ds
  | [], _ => by simp [PyData.depthAll]
  | d :: ds, h => by
    have h := Bool.and_eq_true_iff.mp (show (cls B S d && clsA B S ds) = true by simpa [clsA] using h)
    have a := dp_depth d h.1
    have b := dp_depthA ds h.2
    simp only [PyData.depthAll, dpA]
    omega
end
/-! texts -/
def cp (s : Str) : List Nat := s.cps.toList
theorem cp_app (a b : Str) : cp (a ++ b) = cp a ++ cp b := Array.toList_append
theorem cp_len (a : Str) : a.length = (cp a).length := Array.length_toList.symm
def okC (l : List Nat) : Bool := l.all fun c => decide (c < 0x110000)
theorem okC_app {a b : List Nat} : okC (a ++ b) = (okC a && okC b) := List.all_append
def comma : List Nat := [44, 32]
theorem cp_comma : cp (", " : String) = comma := by decide +kernel
def joinL : List (List Nat) → List Nat
  | [] => []
  | [x] => x
  | x :: y :: r => x ++ comma ++ joinL (y :: r)
theorem cp_join : ∀ ts : List Str, cp (Str.join (", " : String) ts) = joinL (ts.map cp)
  | [] => by decide +kernel
  | [x] => rfl
  | x :: y :: r => by
    show cp (x ++ (", " : String) ++ Str.join (", " : String) (y :: r)) = _
    rw [cp_app, cp_app, cp_comma, cp_join (y :: r)]
    rfl
theorem cp_from : ∀ (ts : List Str) (k : Nat) (acc : Str), 0 < k → cp (textFrom k acc ts) = cp acc ++ (ts.map fun t => comma ++ cp t).flatten
  | [], k, acc, _ => by simp [textFrom]
  | t :: ts, k, acc, hk => by
    unfold textFrom
    rw [cp_from ts (k + 1) _ (by omega), if_pos hk, cp_app, cp_app, cp_comma]
    simp
theorem cp_list : ∀ ts : List Str, cp (listText ts) = [91] ++ joinL (ts.map cp) ++ [93]
  | [] => by decide +kernel
  | t :: ts => by
    have e1 : cp ("[" : String) = [91] := by decide +kernel
    have e2 : cp ("]" : String) = [93] := by decide +kernel
    have e0 : cp ("" : String) = [] := by decide +kernel
    have j : ∀ (x : List Nat) (r : List Str), joinL (x :: r.map cp) = x ++ (r.map fun t => comma ++ cp t).flatten := fun x r => by
      induction r generalizing x with
      | nil => simp [joinL]
      | cons y r ih =>
        rw [List.map_cons]
        show x ++ comma ++ joinL (cp y :: r.map cp) = _
        rw [ih]
        simp
    unfold listText
    rw [cp_app, e2]
    unfold textFrom
    rw [cp_from ts 1 _ (by omega), cp_app, cp_app, e1, List.map_cons, j]
    simp [e0]
theorem cp_tup (ts : List Str) : cp (tupleText ts) = [40] ++ joinL (ts.map cp) ++ (if ts.length = 1 then [44, 41] else [41]) := by
  have e1 : cp ("(" : String) = [40] := by decide +kernel
  have e2 : cp (",)" : String) = [44, 41] := by decide +kernel
  have e3 : cp (")" : String) = [41] := by decide +kernel
  unfold tupleText
  rw [cp_app, cp_app, e1, cp_join]
  congr 1
  by_cases h : ts.length = 1
  · rw [if_pos h, if_pos (by simp [h]), e2]
  · rw [if_neg h, if_neg (by simp [h]), e3]
theorem joinL_len : ∀ ts : List (List Nat), (joinL ts).length ≤ (ts.map fun t => t.length + 2).sum
  | [] => Nat.le_refl _
  | [x] => by simp [joinL]
  | x :: y :: r => by
    have := joinL_len (y :: r)
    simp only [joinL, comma, List.length_append, List.map_cons, List.sum_cons, List.length_cons, List.length_nil] at this ⊢
    omega
theorem joinL_ok : ∀ ts : List (List Nat), (∀ t ∈ ts, okC t = true) → okC (joinL ts) = true
  | [], _ => rfl
  | [x], h => h x (by simp)
  | x :: y :: r, h => by
    have := joinL_ok (y :: r) fun t ht => h t (by simp at ht ⊢; exact .inr ht)
    simp only [joinL, okC_app, h x (by simp), this, Bool.and_true, Bool.true_and]
    rfl
theorem shownAll_map : ∀ ds : List D, PyData.shownAll ds = ds.map PyData.shown
  | [] => by simp [PyData.shownAll]
  | d :: ds => by simp [PyData.shownAll, shownAll_map ds]
theorem cp_shownL (ds : List D) : cp (PyData.shown (.list ds)) = [91] ++ joinL (ds.map fun d => cp (PyData.shown d)) ++ [93] := by
  simp only [PyData.shown, cp_list, shownAll_map, List.map_map]
  rfl
theorem cp_shownT (ds : List D) : cp (PyData.shown (.tuple ds)) = [40] ++ joinL (ds.map fun d => cp (PyData.shown d)) ++ (if ds.length = 1 then [44, 41] else [41]) := by
  simp only [PyData.shown, cp_tup, shownAll_map, List.map_map, List.length_map]
  rfl
mutual
theorem shown_ok (T : TxS B S) : ∀ d : D, cls B S d = true → (cp (PyData.shown d)).length + 2 ≤ 42 * wt d ∧ okC (cp (PyData.shown d)) = true
  | .none, _ => by
    have : (cp (PyData.shown .none)).length + 2 ≤ 42 ∧ okC (cp (PyData.shown .none)) = true := by decide +kernel
    simpa [wt] using this
  | .bool b, _ => by
    have : ∀ b, (cp (PyData.shown (.bool b))).length + 2 ≤ 42 ∧ okC (cp (PyData.shown (.bool b))) = true := by decide +kernel
    simpa [wt] using this b
  | .int i, h => by
    have h : -B ≤ i ∧ i ≤ B := of_decide_eq_true (by simpa [cls] using h)
    have a := T.i2 i h.1 h.2
    rw [cp_len] at a
    refine ⟨?_, T.i3 i h.1 h.2⟩
    have : wt (.int i) = 1 := by simp [wt]
    omega
  | .str s, h => by
    have h : s ∈ S := of_decide_eq_true (by simpa [cls] using h)
    have a := T.s2 s h
    rw [cp_len] at a
    refine ⟨?_, T.s3 s h⟩
    have : wt (.str s) = 1 := by simp [wt]
    omega
  | .list ds, h => by
    obtain ⟨a, b⟩ := shown_okA T ds (by simpa [cls] using h)
    rw [cp_shownL]
    have l := joinL_len (ds.map fun d => cp (PyData.shown d))
    rw [List.map_map] at l
    have l : (joinL (ds.map fun d => cp (PyData.shown d))).length ≤ (ds.map fun d => (cp (PyData.shown d)).length + 2).sum := l
    refine ⟨?_, ?_⟩
    · simp only [List.length_append, List.length_cons, List.length_nil, wt]
      omega
    · rw [okC_app, okC_app, joinL_ok _ fun t ht => by
        obtain ⟨d, hd, rfl⟩ := List.mem_map.mp ht
        exact b d hd]
      rfl
  | .tuple ds, h => by
    obtain ⟨a, b⟩ := shown_okA T ds (by simpa [cls] using h)
    rw [cp_shownT]
    have l := joinL_len (ds.map fun d => cp (PyData.shown d))
    rw [List.map_map] at l
    have l : (joinL (ds.map fun d => cp (PyData.shown d))).length ≤ (ds.map fun d => (cp (PyData.shown d)).length + 2).sum := l
    have e : (if ds.length = 1 then [44, 41] else [41] : List Nat).length ≤ 2 := by split <;> simp
    refine ⟨?_, ?_⟩
    · simp only [List.length_append, List.length_cons, List.length_nil, wt]
      omega
    · rw [okC_app, okC_app, joinL_ok _ fun t ht => by
        obtain ⟨d, hd, rfl⟩ := List.mem_map.mp ht
        exact b d hd]
      split <;> rfl
  | .dict _, h => by simp [cls] at h
theorem shown_okA (T : TxS B S) : ∀ ds : List D, clsA B S ds = true → (ds.map fun d => (cp (PyData.shown d)).length + 2).sum ≤ 42 * wtA ds ∧ ∀ d ∈ ds, okC (cp (PyData.shown d)) = true
  | [], _ => by simp [wtA]
  | d :: ds, h => by
    have h := Bool.and_eq_true_iff.mp (show (cls B S d && clsA B S ds) = true by simpa [clsA] using h)
    have a := shown_ok T d h.1
    have b := shown_okA T ds h.2
    refine ⟨?_, fun x hx => ?_⟩
    · simp only [List.map_cons, List.sum_cons, wtA]
      omega
    · rcases List.mem_cons.mp hx with rfl | hx
      · exact a.2
      · exact b.2 x hx
end
/-- small data of the kind -/
structure Sm (B : Int) (S : List Str) (d : D) : Prop where
  c : cls B S d = true
  w : wt d ≤ 100000
  p : dp d ≤ 30
  l : ml d ≤ 60
theorem Sm.okR (T : TxS B S) {d : D} (h : Sm B S d) : G.okR d = true := by
  have a := cls_show T d h.c
  have b := shown_ok T d h.c
  have c := dp_depth d h.c
  have hw := h.w
  have hp := h.p
  unfold G.okR
  simp only [a.1, a.2, Bool.not_false, Bool.and_true, Bool.true_and, Bool.and_eq_true, decide_eq_true_eq]
  rw [cp_len]
  omega
theorem Sm.shaped (T : TxS B S) {d : D} (h : Sm B S d) : SeqAt.shaped d = true := by
  have c := dp_depth d h.c
  have hp := h.p
  unfold SeqAt.shaped
  rw [cls_lay T d h.c, decide_eq_true (by omega)]; rfl
theorem Sm.shownS (T : TxS B S) {d : D} (h : Sm B S d) : SeqAt.shaped (.str d.shown) = true := by
  have b := (shown_ok T d h.c).2
  unfold SeqAt.shaped
  have e : PyData.canLay0 (.str d.shown) = true := by
    simp only [PyData.canLay0]
    unfold PyData.strOk
    rw [← Array.all_toList]
    exact b
  rw [e]
  simp [PyData.depth]
theorem Sm.inT {ds : List D} (h : Sm B S (.tuple ds)) {d : D} (hd : d ∈ ds) : Sm B S d := by
  have hw := h.w
  have hp := h.p
  have hl := h.l
  have m := clsA_iff.mp (show clsA B S ds = true by simpa [cls] using h.c) d hd
  refine ⟨m, ?_, ?_, ?_⟩
  · have := wt_mem hd
    simp only [wt] at hw
    omega
  · have := (dpA_le (n := dpA ds)).mp (Nat.le_refl _) d hd
    simp only [dp] at hp
    omega
  · have := (mlA_le (n := mlA ds)).mp (Nat.le_refl _) d hd
    simp only [ml] at hl
    omega
theorem Sm.lenT {ds : List D} (h : Sm B S (.tuple ds)) : ds.length ≤ 60 := by
  have hl := h.l
  simp only [ml] at hl
  omega
end
/-! ### the text of a tuple tells it -/
section
def dig (c : Nat) : Bool := c == 45 || (decide (48 ≤ c) && decide (c ≤ 57))
/-- how the texts of whole numbers look -/
structure TxI (B : Int) (S : List Str) : Prop extends TxS B S where
  i4 : ∀ i : Int, -B ≤ i → i ≤ B → cp (PyData.shown (.int i)) ≠ [] ∧ (cp (PyData.shown (.int i))).all dig = true
  i5 : ∀ i j : Int, -B ≤ i → i ≤ B → -B ≤ j → j ≤ B → cp (PyData.shown (.int i)) = cp (PyData.shown (.int j)) → i = j
  s4 : ∀ s ∈ S, ∃ c r, cp (PyData.shown (.str s)) = c :: r ∧ dig c = false ∧ c ≠ 41
variable {B : Int} {S : List Str}
theorem head_other (T : TxI B S) {d : D} (h : cls B S d = true) (hn : ∀ i, d ≠ .int i) : ∃ c r, cp (PyData.shown d) = c :: r ∧ dig c = false ∧ c ≠ 41 := by
  cases d with
  | none => exact ⟨78, _, (by decide +kernel : cp (PyData.shown .none) = 78 :: (cp (PyData.shown .none)).tail), by decide, by decide⟩
  | bool b => cases b with
    | true => exact ⟨84, _, (by decide +kernel : cp (PyData.shown (.bool true)) = 84 :: (cp (PyData.shown (.bool true))).tail), by decide, by decide⟩
    | false => exact ⟨70, _, (by decide +kernel : cp (PyData.shown (.bool false)) = 70 :: (cp (PyData.shown (.bool false))).tail), by decide, by decide⟩
  | int i => exact absurd rfl (hn i)
  | str s => exact T.s4 s (of_decide_eq_true (by simpa [cls] using h))
  | list ds => exact ⟨91, _, by rw [cp_shownL]; rfl, by decide, by decide⟩
  | tuple ds => exact ⟨40, _, by rw [cp_shownT]; rfl, by decide, by decide⟩
  | dict _ => simp [cls] at h
def Tail (l : List Nat) : Prop := l = [41] ∨ l = [44, 41]
/-- what stands behind an item -/
def rest (ds : List D) (t : List Nat) : List Nat := match ds with
  | [] => t
  | d :: r => comma ++ joinL ((d :: r).map fun d => cp (PyData.shown d)) ++ t
theorem join_rest (d : D) (ds : List D) (t : List Nat) : joinL ((d :: ds).map fun d => cp (PyData.shown d)) ++ t = cp (PyData.shown d) ++ rest ds t := by
  cases ds with
  | nil => rfl
  | cons e r =>
    show cp (PyData.shown d) ++ comma ++ joinL ((e :: r).map fun d => cp (PyData.shown d)) ++ t = _
    simp [rest]
theorem rest_head (ds : List D) {t : List Nat} (ht : Tail t) : ∃ c r, rest ds t = c :: r ∧ dig c = false := by
  cases ds with
  | nil => rcases ht with rfl | rfl
           · exact ⟨41, [], rfl, by decide⟩
           · exact ⟨44, [41], rfl, by decide⟩
  | cons e r => exact ⟨44, _, rfl, by decide⟩
theorem split_dig : ∀ {a b r s : List Nat}, a.all dig = true → b.all dig = true → (∃ c q, r = c :: q ∧ dig c = false) → (∃ c q, s = c :: q ∧ dig c = false) → a ++ r = b ++ s → a = b ∧ r = s
  | [], [], r, s, _, _, _, _, h => ⟨rfl, h⟩
  | [], y :: b, r, s, _, hb, ⟨c, q, hr, hc⟩, _, h => by
    rw [hr] at h
    injection h with h1 h2
    have := (Bool.and_eq_true_iff.mp (show (dig y && b.all dig) = true from hb)).1
    rw [← h1, hc] at this; cases this
  | x :: a, [], r, s, ha, _, _, ⟨c, q, hs, hc⟩, h => by
    rw [hs] at h
    injection h with h1 h2
    have := (Bool.and_eq_true_iff.mp (show (dig x && a.all dig) = true from ha)).1
    rw [h1, hc] at this; cases this
  | x :: a, y :: b, r, s, ha, hb, hr, hs, h => by
    injection h with h1 h2
    obtain ⟨e1, e2⟩ := split_dig (Bool.and_eq_true_iff.mp (show (dig x && a.all dig) = true from ha)).2 (Bool.and_eq_true_iff.mp (show (dig y && b.all dig) = true from hb)).2 hr hs h2
    exact ⟨by rw [h1, e1], e2⟩
theorem join_inj (T : TxI B S) : ∀ {ds : List D} {d : D} {y : Int} {ys : List Int} {t u : List Nat}, (∀ e ∈ d :: ds, cls B S e = true) → (∀ i ∈ y :: ys, -B ≤ i ∧ i ≤ B) → Tail t → Tail u →
    cp (PyData.shown d) ++ rest ds t = cp (PyData.shown (.int y)) ++ rest (ys.map PyData.int) u → d :: ds = (y :: ys).map PyData.int
  | ds, d, y, ys, t, u, hd, hy, ht, hu, h => by
    have yb := hy y (by simp)
    obtain ⟨n1, n2⟩ := T.i4 y yb.1 yb.2
    have hdi : ∃ i, d = .int i := Classical.byContradiction fun hn => by
      obtain ⟨c, r, e, hc, _⟩ := head_other T (hd d (by simp)) fun i hi => hn ⟨i, hi⟩
      rw [e] at h
      cases e2 : cp (PyData.shown (.int y)) with
      | nil => exact n1 e2
      | cons x xs =>
        rw [e2] at h n2
        injection h with h1 h2
        have := (Bool.and_eq_true_iff.mp (show (dig x && xs.all dig) = true from n2)).1
        rw [← h1, hc] at this; cases this
    obtain ⟨i, rfl⟩ := hdi
    have ib : -B ≤ i ∧ i ≤ B := of_decide_eq_true (by simpa [cls] using hd (.int i) (by simp))
    obtain ⟨m1, m2⟩ := T.i4 i ib.1 ib.2
    obtain ⟨e1, e2⟩ := split_dig m2 n2 (rest_head ds ht) (rest_head _ hu) h
    have ei := T.i5 i y ib.1 ib.2 yb.1 yb.2 e1
    subst ei
    rw [List.map_cons]
    congr 1
    match ds, ys, e2 with
    | [], [], _ => rfl
    | [], z :: zs, e2 =>
      exfalso
      have e2 : t = comma ++ joinL ((PyData.int z :: zs.map PyData.int).map fun d => cp (PyData.shown d)) ++ u := e2
      rcases ht with rfl | rfl
      · injection e2 with q; cases q
      · injection e2 with _ q
        injection q with q; cases q
    | e :: es, [], e2 =>
      exfalso
      have e2 : comma ++ joinL ((e :: es).map fun d => cp (PyData.shown d)) ++ t = u := e2
      rcases hu with rfl | rfl
      · injection e2 with q; cases q
      · injection e2 with _ q
        injection q with q; cases q
    | e :: es, z :: zs, e2 =>
      have e2 : comma ++ joinL ((e :: es).map fun d => cp (PyData.shown d)) ++ t = comma ++ joinL ((PyData.int z :: zs.map PyData.int).map fun d => cp (PyData.shown d)) ++ u := e2
      rw [List.append_assoc, List.append_assoc] at e2
      have e3 := List.append_cancel_left e2
      rw [join_rest, join_rest] at e3
      exact join_inj T (fun a ha => hd a (by simp at ha ⊢; exact .inr ha)) (fun a ha => hy a (by simp at ha ⊢; exact .inr ha)) ht hu e3
theorem shown_inj (T : TxI B S) {d : D} {y : List Int} (ht : isA "tuple" d = true) (hc : cls B S d = true) (hy : ∀ i ∈ y, -B ≤ i ∧ i ≤ B) (h : d.shown = (eT PyData.int y).shown) : d = eT PyData.int y := by
  cases d with
  | tuple ds =>
    have h := congrArg cp h
    rw [eT, cp_shownT, cp_shownT] at h
    have tl : ∀ n : Nat, Tail (if n = 1 then [44, 41] else [41]) := fun n => by
      unfold Tail
      split
      · exact .inr rfl
      · exact .inl rfl
    rw [List.append_assoc, List.append_assoc] at h
    have h := List.append_cancel_left h
    have hcl := clsA_iff.mp (show clsA B S ds = true by simpa [cls] using hc)
    match ds, y, h with
    | [], [], _ => rfl
    | [], b :: bs, h =>
      exfalso
      have n1 := T.i4 b (hy b (by simp)).1 (hy b (by simp)).2
      rw [List.map_cons, join_rest] at h
      have h : [41] = cp (PyData.shown (.int b)) ++ _ := h
      cases e : cp (PyData.shown (.int b)) with
      | nil => exact n1.1 e
      | cons x xs =>
        rw [e] at h n1
        injection h with h1 _
        have := (Bool.and_eq_true_iff.mp (show (dig x && xs.all dig) = true from n1.2)).1
        rw [← h1] at this; cases this
    | d :: ds, [], h =>
      exfalso
      rw [join_rest] at h
      have h : cp (PyData.shown d) ++ _ = [41] := h
      by_cases hi : ∃ i, d = .int i
      · obtain ⟨i, rfl⟩ := hi
        have ib : -B ≤ i ∧ i ≤ B := of_decide_eq_true (by simpa [cls] using hcl (.int i) (by simp))
        have n1 := T.i4 i ib.1 ib.2
        cases e : cp (PyData.shown (.int i)) with
        | nil => exact n1.1 e
        | cons x xs =>
          rw [e] at h n1
          injection h with h1 _
          have := (Bool.and_eq_true_iff.mp (show (dig x && xs.all dig) = true from n1.2)).1
          rw [h1] at this; cases this
      · obtain ⟨c, r, e, _, hc⟩ := head_other T (hcl d (by simp)) fun i z => hi ⟨i, z⟩
        rw [e] at h
        injection h with h1 _
        exact hc h1
    | d :: ds, b :: bs, h =>
      rw [join_rest, show (b :: bs).map PyData.int = PyData.int b :: bs.map PyData.int from rfl, join_rest] at h
      have := join_inj T hcl hy (tl _) (tl _) h
      rw [this]
  | _ => simp [isA, dty] at ht
end
/-! ### is it a group within? -/
section
variable {B : Int} {S : List Str} {w : List Int} {N : Nat}
theorem oor_F {q : Option Bool} : oor false q = q := rfl
theorem oand_T {q : Option Bool} : oand true q = q := rfl
theorem isA_tupD {d : D} (h : isA "tuple" d = true) : ∃ ds, d = .tuple ds := by
  cases d with
  | tuple ds => exact ⟨ds, rfl⟩
  | _ => simp [isA, dty] at h
theorem El.bdB (hB : ∀ n ∈ w, n ≤ B) : ∀ {w x : List Int}, (∀ n ∈ w, n ≤ B) → El w x → ∀ i ∈ x, -B ≤ i ∧ i ≤ B
  | [], [], _, _ => fun i hi => nomatch hi
  | n :: w, a :: x, hw, h => fun i hi => by
    have hn := hw n (by simp)
    have h1 : 0 ≤ a ∧ a < n := h.1
    rcases List.mem_cons.mp hi with rfl | hi
    · omega
    · exact El.bdB hB (fun m hm => hw m (by simp [hm])) h.2 i hi
theorem map_of {α β : Type} {f : β → α} : ∀ {l : List α}, (∀ a ∈ l, ∃ b, a = f b) → ∃ m : List β, l = m.map f
  | [], _ => ⟨[], rfl⟩
  | a :: l, h => by
    obtain ⟨b, rfl⟩ := h a (by simp)
    obtain ⟨m, e⟩ := map_of (l := l) fun x hx => h x (by simp [hx])
    exact ⟨b :: m, by rw [e]; rfl⟩
/-- the test of the texts -/
def inTx (ev : List (List Int)) (x : D) : Bool := isA "tuple" x && decide (x.shown ∈ ev.map fun y => ((eT PyData.int) y).shown)
theorem inTx_of (T : TxI B S) (hw : ∀ n ∈ w, n ≤ B) {ev : List (List Int)} (hev : ∀ y ∈ ev, El w y) {x : D} (hc : cls B S x = true) (h : inTx ev x = true) : ∃ y ∈ ev, x = eT PyData.int y := by
  unfold inTx at h
  rw [Bool.and_eq_true, decide_eq_true_eq] at h
  obtain ⟨y, hy, e⟩ := List.mem_map.mp h.2
  exact ⟨y, hy, shown_inj T h.1 hc (El.bdB hw hw (hev y hy)) e.symm⟩
theorem inTx_yes {ev : List (List Int)} {y : List Int} (h : y ∈ ev) : inTx ev (eT PyData.int y) = true := by
  unfold inTx
  rw [decide_eq_true (List.mem_map.mpr ⟨y, h, rfl⟩)]
  simp [isA, dty]
theorem within_any (T : TxI B S) (hB : ∀ n ∈ w, n ≤ B) (F : Few w N) (hN : N < 64) {ev : List (List Int)} (X : Txt w ev) {d : D} (hd : Sm B S d) : ∃ b, m_is_within w d = some b ∧ (b = true ↔ ∃ g, Grp w g ∧ d = eT (eT PyData.int) g) := by
  by_cases ht : isA "tuple" d = true
  · obtain ⟨ds, rfl⟩ := isA_tupD ht
    have hl : ds.length < 64 := by have := hd.lenT; omega
    by_cases h0 : ds = []
    · subst h0
      refine ⟨false, ?_, ⟨fun h => (nomatch h), fun ⟨g, G, e⟩ => ?_⟩⟩
      · unfold m_is_within
        refine bind_of true ?_ rfl
        rw [ht, Bool.not_true, oor_F]
        exact bind_of [] rfl rfl
      · have : g = [] := by
          injection e with e
          exact List.map_eq_nil_iff.mp e.symm
        have z := G.zero
        rw [this] at z; cases z
    · have hlen : ¬ ((ds.length : Int) = 0) := by
        have := List.length_pos_iff.mpr h0
        omega
      have tst : lcF (fun (x148 : D) => (oand (isA "tuple" x148) ((gd (okR x148)).bind fun u149 => (szL ev).bind fun u150 => (lcF (fun (x151 : (List Int)) => (gd (okR ((eT PyData.int) x151))).bind fun u152 => some (some ((((eT PyData.int) x151)).shown))) ev).bind fun ys153 => (gd (SeqAt.shaped (PyData.str ((x148).shown)))).bind fun u154 => (gd (SeqAt.shaped ((eL PyData.str) ys153))).bind fun u155 => some (decide ((x148).shown ∈ ys153)))).bind fun b156 => some (some b156)) ds = some (ds.map (inTx ev)) := lcF_all fun x hx => by
        have sm := hd.inT hx
        by_cases hx' : isA "tuple" x = true
        · refine bind_of (inTx ev x) ?_ rfl
          rw [hx']
          refine bind_of () (by unfold gd; rw [sm.okR T.toTxS]; rfl) (bind_of () (szL_ok (by have := X.sz; omega)) (bind_of (ev.map fun y => ((eT PyData.int) y).shown) (lcF_all fun y hy => bind_of () (by unfold gd; rw [X.r y hy]; rfl) rfl) (bind_of () (by unfold gd; rw [sm.shownS T.toTxS]; rfl) (bind_of () (by unfold gd; rw [X.l]; rfl) ?_))))
          unfold inTx
          rw [hx']
          rfl
        · have hx' : isA "tuple" x = false := by simpa using hx'
          refine bind_of (inTx ev x) ?_ rfl
          unfold inTx
          rw [hx']
          rfl
      have start : ∀ {r : Option Bool} {b : Bool}, (bif (!((ds.map (inTx ev)).all id)) then some false else r) = some b → (∀ r', m_is_within w (.tuple ds) = r' → True) → True := fun _ _ => trivial
      by_cases hall : ((ds.map (inTx ev)).all id) = true
      · have hx : ∀ x ∈ ds, ∃ y, x = eT PyData.int y := fun x hx => by
          obtain ⟨y, _, e⟩ := inTx_of T hB (fun y hy => (X.mem y).mp hy) (hd.inT hx).c (List.all_eq_true.mp hall _ (List.mem_map.mpr ⟨x, hx, rfl⟩))
          exact ⟨y, e⟩
        obtain ⟨g, rfl⟩ := map_of hx
        have eg : ∀ a ∈ g, El w a := fun a ha => by
          obtain ⟨y, hy, e⟩ := inTx_of T hB (fun y hy => (X.mem y).mp hy) (hd.inT (List.mem_map.mpr ⟨a, ha, rfl⟩)).c (List.all_eq_true.mp hall _ (List.mem_map.mpr ⟨_, List.mem_map.mpr ⟨a, ha, rfl⟩, rfl⟩))
          rw [eT_inj e]
          exact (X.mem y).mp hy
        rw [List.length_map] at hl
        obtain ⟨g', em, G', mem⟩ := made_spec F eg
        have s1 : SeqAt.shaped (eL (eT PyData.int) g) = true := Sh.shaped (Sh.L (Sh.T Sh.int)) (by decide) g
        have s1' : SeqAt.shaped (eL (eT PyData.int) (sset g)) = true := Sh.shaped (Sh.L (Sh.T Sh.int)) (by decide) _
        have s2 : SeqAt.shaped (eT (eT PyData.int) g) = true := Sh.shaped (Sh.T (Sh.T Sh.int)) (by decide) g
        have s2' : SeqAt.shaped (eT (eT PyData.int) g') = true := Sh.shaped (Sh.T (Sh.T Sh.int)) (by decide) _
        have e1 : PyData.eqv (eL (eT PyData.int) g) (eL (eT PyData.int) (sset g)) = decide (g = sset g) := by rw [Eqv.L (Eqv.T Eqv.int)]
        have e2 : PyData.eqv (eT (eT PyData.int) g') (eT (eT PyData.int) g) = decide (g' = g) := by rw [Eqv.T (Eqv.T Eqv.int)]
        have l1 : (eL eD) (g.map (eT PyData.int)) = eL (eT PyData.int) g := eD_mapL _
        refine ⟨decide (g = sset g) && decide (g' = g), ?_, ?_⟩
        · unfold m_is_within
          refine bind_of false ?_ (bind_of ev X.all (bind_of (g.map (eT PyData.int)) rfl (bind_of () (szL_ok (by rw [List.length_map]; omega)) (bind_of _ tst ?_))))
          · rw [ht, Bool.not_true, oor_F]
            refine bind_of _ rfl ?_
            rw [decide_eq_false hlen]
          rw [hall, Bool.not_true, cond_false]
          refine bind_of _ rfl (bind_of g (toTW_W g) (bind_of () (by unfold gd; rw [setOk_W hl eg]; rfl) (bind_of () (by rw [l1]; unfold gdS gd; rw [s1, s1']; rfl) (bind_of (decide (g = sset g) && decide (g' = g)) ?_ rfl))))
          rw [l1, e1]
          cases decide (g = sset g) with
          | false => rfl
          | true => exact bind_of g (toTW_W g) (bind_of g' em (bind_of () (by unfold gdS gd; rw [s2', show SeqAt.shaped (PyData.tuple (g.map (eT PyData.int))) = true from s2]; rfl) (by
              show some (PyData.eqv (eT (eT PyData.int) g') (eT (eT PyData.int) g)) = _
              rw [e2, Bool.true_and])))
        · rw [Bool.and_eq_true, decide_eq_true_eq, decide_eq_true_eq]
          constructor
          · rintro ⟨_, h2⟩
            exact ⟨g, h2 ▸ G', rfl⟩
          · rintro ⟨k, K, e⟩
            have ek : g = k := by
              have := congrArg toTW e
              rw [show toTW (PyData.tuple (g.map (eT PyData.int))) = some g from toTW_W g, toTW_W] at this
              exact Option.some.inj this
            subst ek
            exact ⟨(sset_grp K hl).2.symm, grp_eq G' K fun a => by rw [mem]; exact K.own⟩
      · have hall' : ((ds.map (inTx ev)).all id) = false := by simpa using hall
        refine ⟨false, ?_, ⟨fun h => (nomatch h), fun ⟨g, G, e⟩ => ?_⟩⟩
        · unfold m_is_within
          refine bind_of false ?_ (bind_of ev X.all (bind_of ds rfl (bind_of () (szL_ok (by omega)) (bind_of _ tst ?_))))
          · rw [ht, Bool.not_true, oor_F]
            refine bind_of _ rfl ?_
            rw [decide_eq_false hlen]
          rw [hall']; rfl
        · injection e with e
          subst e
          refine absurd (List.all_eq_true.mpr fun b hb => ?_) hall
          obtain ⟨x, hx, rfl⟩ := List.mem_map.mp hb
          obtain ⟨a, ha, rfl⟩ := List.mem_map.mp hx
          exact inTx_yes ((X.mem a).mpr (G.el a ha))
  · have ht' : isA "tuple" d = false := by simpa using ht
    refine ⟨false, ?_, ⟨fun h => (nomatch h), fun ⟨g, _, e⟩ => ?_⟩⟩
    · unfold m_is_within
      refine bind_of true ?_ rfl
      rw [ht']; rfl
    · rw [e] at ht
      exact absurd (by simp [isA, dty]) ht
end
/-! ### bent data -/
section
structure BS (S S' : List Str) : Prop where
  up : ∀ s ∈ S, s ∈ S' ∧ s ++ ("a" : Str) ∈ S' ∧ cutS s (some (1 : Int)) none ∈ S' ∧ s ++ ("A" : Str) ∈ S' ∧ s ++ (" " : Str) ∈ S' ∧ cutS s none (some (1 : Int)) ∈ S'
  x : ("x" : Str) ∈ S'
  len : ∀ s ∈ S, s.length ≤ 1000
variable {B B' : Int} {S S' : List Str}
mutual
theorem cls_up (hB : B ≤ B') (T : BS S S') : ∀ d : D, cls B S d = true → cls B' S' d = true
  | .none, _ => by simp [cls]
  | .bool _, _ => by simp [cls]
  | .int i, h => by
    have h : -B ≤ i ∧ i ≤ B := of_decide_eq_true (by simpa [cls] using h)
    simp only [cls, decide_eq_true_eq]
    omega
  | .str s, h => by
    have h : s ∈ S := of_decide_eq_true (by simpa [cls] using h)
    simp only [cls, decide_eq_true_eq]
    exact (T.up s h).1
  | .list ds, h => by
    simp only [cls]
    exact cls_upA hB T ds (by simpa [cls] using h)
  | .tuple ds, h => by
    simp only [cls]
    exact cls_upA hB T ds (by simpa [cls] using h)
  | .dict _, h => by simp [cls] at h
theorem cls_upA (hB : B ≤ B') (T : BS S S') : ∀ ds : List D, clsA B S ds = true → clsA B' S' ds = true
  | [], _ => by simp [clsA]
  | d :: ds, h => by
    have h := Bool.and_eq_true_iff.mp (show (cls B S d && clsA B S ds) = true by simpa [clsA] using h)
    simp only [clsA, cls_up hB T d h.1, cls_upA hB T ds h.2, Bool.and_self]
end
/-- of the kind, with bounds -/
structure Bt (B : Int) (S : List Str) (W P L : Nat) (d : D) : Prop where
  c : cls B S d = true
  w : wt d ≤ W
  p : dp d ≤ P
  l : ml d ≤ L
theorem Bt.sm {W P L : Nat} {d : D} (h : Bt B S W P L d) (hW : W ≤ 100000) (hP : P ≤ 30) (hL : L ≤ 60) : Sm B S d := ⟨h.c, by have := h.w; omega, by have := h.p; omega, by have := h.l; omega⟩
theorem Bt.tup {W P L : Nat} {ds : List D} (hc : ∀ d ∈ ds, cls B S d = true) (hw : 1 + wtA ds ≤ W) (hp : ∀ d ∈ ds, dp d + 1 ≤ P) (hl : ∀ d ∈ ds, ml d ≤ L) (hn : ds.length ≤ L) (hP : 1 ≤ P) : Bt B S W P L (.tuple ds) ∧ Bt B S W P L (.list ds) := by
  have a := clsA_iff.mpr hc
  have b := (mlA_le (n := L)).mpr hl
  have e : dpA ds ≤ P - 1 := dpA_le.mpr fun d hd => by have := hp d hd; omega
  refine ⟨⟨by simpa [cls] using a, by simp only [wt]; omega, by simp only [dp]; omega, by simp only [ml]; omega⟩, ⟨by simpa [cls] using a, by simp only [wt]; omega, by simp only [dp]; omega, by simp only [ml]; omega⟩⟩
theorem Bt.atom {W P L : Nat} {d : D} (h : cls B S d = true) (h1 : wt d = 1) (h2 : dp d = 0) (h3 : ml d = 0) (hW : 1 ≤ W) : Bt B S W P L d := ⟨h, by omega, by omega, by omega⟩
theorem isInt_eq (d : D) : m__law_is_integer d = some (match d with | .int _ => true | _ => false) := by
  cases d <;> simp [m__law_is_integer, isA, dty]
theorem toTD_t (ds : List D) : toTD (.tuple ds) = some ds := rfl
theorem ixN_ok {n : Nat} {i : Int} (h0 : 0 ≤ i) (h : i < n) : ∃ k, ixN n i = some k ∧ k < n := by
  refine ⟨i.toNat, ?_, by omega⟩
  unfold ixN
  rw [if_pos h0, if_pos h]
theorem oandP_T {S : Type} {q : Option (Bool × S)} {s : S} : oandP true q s = q := rfl
theorem eTD (ds : List D) : eT eD ds = .tuple ds := congrArg PyData.tuple (List.map_id ds)
theorem eLD (ds : List D) : eL eD ds = .list ds := congrArg PyData.list (List.map_id ds)
theorem bent_ok (hB : B + 2 ≤ B') (hB1 : 1 ≤ B') (T : BS S S') {W L : Nat} (hW : W ≤ 100000) (hL : L ≤ 100000) : ∀ (n : Nat) (d : D) {k : Nat} {p : Pool}, PW k p → k + 4 * n < 2 ^ 60 → cls B S d = true → wt d ≤ W → dp d < n → ml d ≤ L →
    ∃ d' p', m__law_bent n p d = some (d', p') ∧ Bt B' S' (n * (3 * W + 10)) (dp d + 1) (2 * L + 2) d' ∧ PW (k + 4 * n) p'
  | 0, d, _, _, _, _, _, _, h, _ => absurd h (Nat.not_lt_zero _)
  | n + 1, d, k, p, hp, hk, hc, hw, hd, hl => by
    have b64 : (2 : Nat) ^ 64 = 18446744073709551616 := rfl
    have b60 : (2 : Nat) ^ 60 = 1152921504606846976 := rfl
    have upD : ∀ e : D, cls B S e = true → cls B' S' e = true := cls_up (by omega) T
    have wW : n * (3 * W + 10) + (3 * W + 10) = (n + 1) * (3 * W + 10) := by rw [Nat.add_mul, Nat.one_mul]
    -- the second part
    have second : ∀ {k' : Nat} {q : Pool}, PW k' q → k' + 3 ≤ k + 4 * (n + 1) → (∀ ds, d = .tuple ds → ds.length ≤ L) → ∃ d' p', ((m__law_draw q (9 : Int)).bind fun r360 => bif (decide (r360.1 = (0 : Int))) then (m__law_draw r360.2 (8 : Int)).bind fun r361 => (idx [PyData.str ("x" : Str), PyData.bool true, (eT eD) [], PyData.int (0 : Int), PyData.int (-(1 : Int)), PyData.none, PyData.bool false, (eL eD) []] r361.1).bind fun x362 => some (x362, r361.2) else (m__law_is_integer d).bind fun r363 => bif r363 then (toI d).bind fun d364 => (m__law_draw r360.2 (4 : Int)).bind fun r365 => (idx [(1 : Int), (-(1 : Int)), (2 : Int), (0 : Int)] r365.1).bind fun x366 => some (PyData.int (d364 + x366), r365.2) else bif (isA "str" d) then (toS d).bind fun d367 => (szOk (d367.length + ("a" : Str).length)).bind fun u368 => (szOk d367.length).bind fun u369 => (szOk (d367.length + ("A" : Str).length)).bind fun u370 => (szOk (d367.length + (" " : Str).length)).bind fun u371 => (szOk d367.length).bind fun u372 => (m__law_draw r360.2 (5 : Int)).bind fun r373 => (idx [(d367 ++ ("a" : Str)), (cutS d367 (some (1 : Int)) none), (d367 ++ ("A" : Str)), (d367 ++ (" " : Str)), (cutS d367 none (some (1 : Int)))] r373.1).bind fun x374 => some (PyData.str x374, r373.2) else (oor (!(isA "tuple" d)) ((sq d).bind fun ds375 => some (decide ((ds375.length : Int) = (0 : Int))))).bind fun b376 => bif b376 then some ((bif (decide (r360.1 < (5 : Int))) then (eP eD PyData.int) (d, (0 : Int)) else (eT eD) []), r360.2) else (toTD d).bind fun d377 => (m__law_draw r360.2 (d377.length : Int)).bind fun r378 => bif (decide (r360.1 < (3 : Int))) then (szOk ((cut d377 none (some r378.1)).length + (cut d377 (some (r378.1 + (1 : Int))) none).length)).bind fun u379 => some ((eT eD) ((cut d377 none (some r378.1)) ++ (cut d377 (some (r378.1 + (1 : Int))) none)), r378.2) else bif (decide (r360.1 < (5 : Int))) then (idx d377 r378.1).bind fun x382 => (szOk ((cut d377 none (some r378.1)).length + [x382].length)).bind fun u383 => (szOk (((cut d377 none (some r378.1)) ++ [x382]).length + (cut d377 (some r378.1) none).length)).bind fun u384 => some ((eT eD) (((cut d377 none (some r378.1)) ++ [x382]) ++ (cut d377 (some r378.1) none)), r378.2) else bif (decide (r360.1 = (5 : Int))) then some ((eL eD) d377, r378.2) else (m__law_draw r378.2 (d377.length : Int)).bind fun r385 => (idx d377 r385.1).bind fun x386 => (ixN d377.length r378.1).bind fun k387 => (idx d377 r378.1).bind fun x388 => (ixN (d377.set k387 x386).length r385.1).bind fun k389 => some ((eT eD) ((d377.set k387 x386).set k389 x388), r385.2)) = some (d', p') ∧ Bt B' S' ((n + 1) * (3 * W + 10)) (dp d + 1) (2 * L + 2) d' ∧ PW (k + 4 * (n + 1)) p' := by
      intro k' q hq hk' hlen
      obtain ⟨t, q1, e1, t0, t1, h1⟩ := draw_ok (many := 9) hq (by omega) (by decide) (by decide)
      by_cases ht : t = 0
      · obtain ⟨v, q2, e2, v0, v1, h2⟩ := draw_ok (many := 8) h1 (by omega) (by decide) (by decide)
        have hi : idx [PyData.str ("x" : Str), PyData.bool true, (eT eD) [], PyData.int (0 : Int), PyData.int (-(1 : Int)), PyData.none, PyData.bool false, (eL eD) []] v = some (_) := idx_nat v0 (by simpa using v1)
        refine ⟨_, q2, bind_of (t, q1) e1 (by rw [decide_eq_true ht, cond_true]; exact bind_of (v, q2) e2 (bind_of _ hi rfl)), ?_, PW.mono h2 (by omega)⟩
        have hm : ∀ e ∈ ([PyData.str ("x" : Str), PyData.bool true, (eT eD) [], PyData.int (0 : Int), PyData.int (-(1 : Int)), PyData.none, PyData.bool false, (eL eD) []] : List D), Bt B' S' ((n + 1) * (3 * W + 10)) (dp d + 1) (2 * L + 2) e := fun e he => by
          have w1 : 1 ≤ (n + 1) * (3 * W + 10) := by omega
          simp only [List.mem_cons, List.not_mem_nil, or_false] at he
          rcases he with rfl | rfl | rfl | rfl | rfl | rfl | rfl | rfl
          · exact .atom (by simp only [cls, decide_eq_true_eq]; exact T.x) rfl rfl rfl w1
          · exact .atom rfl rfl rfl rfl w1
          · exact (Bt.tup (ds := []) (fun _ h => nomatch h) (by simp only [wtA]; omega) (fun _ h => nomatch h) (fun _ h => nomatch h) (by simp) (by omega)).1
          · exact .atom (by simp only [cls, decide_eq_true_eq]; omega) rfl rfl rfl w1
          · exact .atom (by simp only [cls, decide_eq_true_eq]; omega) rfl rfl rfl w1
          · exact .atom rfl rfl rfl rfl w1
          · exact .atom rfl rfl rfl rfl w1
          · exact (Bt.tup (ds := []) (fun _ h => nomatch h) (by simp only [wtA]; omega) (fun _ h => nomatch h) (fun _ h => nomatch h) (by simp) (by omega)).2
        exact hm _ (List.getElem_mem _)
      have self : ∀ d0 : D, d0 = d → (∀ ds, d0 ≠ .tuple ds ∨ d0 = .tuple []) → ∀ b : Bool, Bt B' S' ((n + 1) * (3 * W + 10)) (dp d + 1) (2 * L + 2) (bif b then (eP eD PyData.int) (d0, (0 : Int)) else (eT eD) []) := fun d0 hd0 _ b => by
        subst hd0
        cases b with
        | true =>
          refine (Bt.tup (ds := [d0, PyData.int 0]) (fun e he => ?_) ?_ (fun e he => ?_) (fun e he => ?_) (by simp) (by omega)).1
          · simp only [List.mem_cons, List.not_mem_nil, or_false] at he
            rcases he with rfl | rfl
            · exact upD _ hc
            · simp only [cls, decide_eq_true_eq]; omega
          · simp only [wtA, wt]; omega
          · simp only [List.mem_cons, List.not_mem_nil, or_false] at he
            rcases he with rfl | rfl
            · omega
            · simp only [dp]; omega
          · simp only [List.mem_cons, List.not_mem_nil, or_false] at he
            rcases he with rfl | rfl
            · omega
            · simp only [ml]; omega
        | false => exact (Bt.tup (ds := []) (fun _ h => nomatch h) (by simp only [wtA]; omega) (fun _ h => nomatch h) (fun _ h => nomatch h) (by simp) (by omega)).1
      cases d with
      | int i =>
        have hc' : -B ≤ i ∧ i ≤ B := of_decide_eq_true (by simpa [cls] using hc)
        obtain ⟨v, q2, e2, v0, v1, h2⟩ := draw_ok (many := 4) h1 (by omega) (by decide) (by decide)
        have hi : idx [(1 : Int), (-(1 : Int)), (2 : Int), (0 : Int)] v = some (_) := idx_nat v0 (by simpa using v1)
        refine ⟨_, q2, bind_of (t, q1) e1 (by rw [decide_eq_false ht, cond_false]; exact bind_of true (isInt_eq _) (by rw [cond_true]; exact bind_of i rfl (bind_of (v, q2) e2 (bind_of _ hi rfl)))), ?_, PW.mono h2 (by omega)⟩
        refine .atom ?_ rfl rfl rfl (by omega)
        have hm : ∀ x ∈ ([(1 : Int), (-(1 : Int)), (2 : Int), (0 : Int)] : List Int), -1 ≤ x ∧ x ≤ 2 := by decide
        have := hm _ (List.getElem_mem (n := v.toNat) (l := [(1 : Int), (-(1 : Int)), (2 : Int), (0 : Int)]) (by simp; omega))
        simp only [cls, decide_eq_true_eq]
        omega
      | str s =>
        have hs : s ∈ S := of_decide_eq_true (by simpa [cls] using hc)
        have sl := T.len s hs
        have l1 : ("a" : Str).length = 1 := rfl
        have l2 : ("A" : Str).length = 1 := rfl
        have l3 : (" " : Str).length = 1 := rfl
        obtain ⟨v, q2, e2, v0, v1, h2⟩ := draw_ok (many := 5) h1 (by omega) (by decide) (by decide)
        have hi : idx [(s ++ ("a" : Str)), (cutS s (some (1 : Int)) none), (s ++ ("A" : Str)), (s ++ (" " : Str)), (cutS s none (some (1 : Int)))] v = some (_) := idx_nat v0 (by simpa using v1)
        refine ⟨_, q2, bind_of (t, q1) e1 (by rw [decide_eq_false ht, cond_false]; exact bind_of false (isInt_eq _) (by
          rw [show isA "str" (PyData.str s) = true by simp [isA, dty], cond_false, cond_true]
          exact bind_of s rfl (bind_of () (szOk_ok (by omega)) (bind_of () (szOk_ok (by omega)) (bind_of () (szOk_ok (by omega)) (bind_of () (szOk_ok (by omega)) (bind_of () (szOk_ok (by omega)) (bind_of (v, q2) e2 (bind_of _ hi rfl))))))))), ?_, PW.mono h2 (by omega)⟩
        refine .atom ?_ rfl rfl rfl (by omega)
        have u := T.up s hs
        have hm : ∀ x ∈ ([(s ++ ("a" : Str)), (cutS s (some (1 : Int)) none), (s ++ ("A" : Str)), (s ++ (" " : Str)), (cutS s none (some (1 : Int)))] : List Str), x ∈ S' := fun x hx => by
          simp only [List.mem_cons, List.not_mem_nil, or_false] at hx
          rcases hx with rfl | rfl | rfl | rfl | rfl
          · exact u.2.1
          · exact u.2.2.1
          · exact u.2.2.2.1
          · exact u.2.2.2.2.1
          · exact u.2.2.2.2.2
        simp only [cls, decide_eq_true_eq]
        exact hm _ (List.getElem_mem _)
      | none => exact ⟨_, q1, bind_of (t, q1) e1 (by rw [decide_eq_false ht, cond_false]; exact bind_of false (isInt_eq _) (by
          rw [show isA "str" (PyData.none) = false by simp [isA, dty], show isA "tuple" (PyData.none) = false by simp [isA, dty], cond_false, cond_false]
          rfl)), self _ rfl (fun _ => .inl (by simp)) _, PW.mono h1 (by omega)⟩
      | bool b => exact ⟨_, q1, bind_of (t, q1) e1 (by rw [decide_eq_false ht, cond_false]; exact bind_of false (isInt_eq _) (by
          rw [show isA "str" (PyData.bool b) = false by simp [isA, dty], show isA "tuple" (PyData.bool b) = false by simp [isA, dty], cond_false, cond_false]
          rfl)), self _ rfl (fun _ => .inl (by simp)) _, PW.mono h1 (by omega)⟩
      | list ds => exact ⟨_, q1, bind_of (t, q1) e1 (by rw [decide_eq_false ht, cond_false]; exact bind_of false (isInt_eq _) (by
          rw [show isA "str" (PyData.list ds) = false by simp [isA, dty], show isA "tuple" (PyData.list ds) = false by simp [isA, dty], cond_false, cond_false]
          rfl)), self _ rfl (fun _ => .inl (by simp)) _, PW.mono h1 (by omega)⟩
      | dict _ => simp [cls] at hc
      | tuple ds =>
        have hds := hlen ds rfl
        have s0 : isA "str" (PyData.tuple ds) = false := by simp [isA, dty]
        have s1 : isA "tuple" (PyData.tuple ds) = true := by simp [isA, dty]
        by_cases hz : ds = []
        · subst hz
          exact ⟨_, q1, bind_of (t, q1) e1 (by rw [decide_eq_false ht, cond_false]; exact bind_of false (isInt_eq _) (by rw [s0, s1, cond_false, cond_false]; exact bind_of true rfl rfl)), self _ rfl (fun _ => .inr rfl) _, PW.mono h1 (by omega)⟩
        · have hpos := List.length_pos_iff.mpr hz
          have hne : ¬ ((ds.length : Int) = 0) := by omega
          have cA := clsA_iff.mp (show clsA B S ds = true by simpa [cls] using hc)
          have wA : 1 + wtA ds ≤ W := by simpa [wt] using hw
          have dA := (dpA_le (n := dpA ds)).mp (Nat.le_refl _)
          have dd : dp (PyData.tuple ds) = 1 + dpA ds := by simp [dp]
          have lA := (mlA_le (n := mlA ds)).mp (Nat.le_refl _)
          have ll : max ds.length (mlA ds) ≤ L := by simpa [ml] using hl
          have mk : ∀ es : List D, (∀ e ∈ es, e ∈ ds) → wtA es ≤ 3 * W → es.length ≤ 2 * L + 2 → Bt B' S' ((n + 1) * (3 * W + 10)) (dp (PyData.tuple ds) + 1) (2 * L + 2) (.tuple es) ∧ Bt B' S' ((n + 1) * (3 * W + 10)) (dp (PyData.tuple ds) + 1) (2 * L + 2) (.list es) := fun es he hw he2 =>
            Bt.tup (fun e m => upD _ (cA e (he e m))) (by omega) (fun e m => by have := dA e (he e m); omega) (fun e m => by have := lA e (he e m); omega) he2 (by omega)
          have c1 : ∀ lo hi, (∀ e ∈ cut ds lo hi, e ∈ ds) ∧ wtA (cut ds lo hi) ≤ wtA ds ∧ (cut ds lo hi).length ≤ L := fun lo hi => ⟨fun e m => mem_cut m, wtA_cut _ _ _, by have := len_cut ds lo hi; omega⟩
          obtain ⟨v, q2, e2, v0, v1, h2⟩ := draw_ok (many := (ds.length : Int)) h1 (by omega) (by omega) (by omega)
          have head : ∀ {r : Option (D × Pool)} {z : D × Pool}, r = some z → ((oor (!(isA "tuple" (PyData.tuple ds))) ((sq (PyData.tuple ds)).bind fun ds375 => some (decide ((ds375.length : Int) = (0 : Int))))).bind fun b376 => bif b376 then some ((bif (decide (t < (5 : Int))) then (eP eD PyData.int) (PyData.tuple ds, (0 : Int)) else (eT eD) []), q1) else r) = some z := fun hr => by
            refine bind_of false ?_ hr
            rw [s1, Bool.not_true, oor_F]
            refine bind_of ds rfl ?_
            rw [decide_eq_false hne]
          have hi : idx ds v = some (_) := idx_nat v0 v1
          obtain ⟨x, hx, hxi⟩ : ∃ x, x ∈ ds ∧ idx ds v = some x := ⟨_, List.getElem_mem _, hi⟩
          by_cases t3 : t < 3
          · refine ⟨_, q2, bind_of (t, q1) e1 (by rw [decide_eq_false ht, cond_false]; exact bind_of false (isInt_eq _) (by rw [s0, cond_false, cond_false]; exact head (bind_of ds rfl (bind_of (v, q2) e2 (by rw [decide_eq_true t3, cond_true]; exact bind_of () (szOk_ok (by have := (c1 none (some v)).2.2; have := (c1 (some (v + 1)) none).2.2; dsimp only; omega)) rfl))))), ?_, PW.mono h2 (by omega)⟩
            rw [eTD]
            refine (mk _ (fun e m => (List.mem_append.mp m).elim ((c1 _ _).1 e) ((c1 _ _).1 e)) ?_ ?_).1
            · dsimp only
              rw [wtA_app]
              have := (c1 none (some v)).2.1; have := (c1 (some (v + 1)) none).2.1; omega
            · dsimp only
              rw [List.length_append]
              have := (c1 none (some v)).2.2; have := (c1 (some (v + 1)) none).2.2; omega
          · by_cases t5 : t < 5
            · refine ⟨_, q2, bind_of (t, q1) e1 (by rw [decide_eq_false ht, cond_false]; exact bind_of false (isInt_eq _) (by rw [s0, cond_false, cond_false]; exact head (bind_of ds rfl (bind_of (v, q2) e2 (by rw [decide_eq_false t3, cond_false, decide_eq_true t5, cond_true]; exact bind_of x hxi (bind_of () (szOk_ok (by have := (c1 none (some v)).2.2; simp; omega)) (bind_of () (szOk_ok (by have := (c1 none (some v)).2.2; have := (c1 (some v) none).2.2; simp; omega)) rfl))))))), ?_, PW.mono h2 (by omega)⟩
              rw [eTD]
              refine (mk _ (fun e m => ?_) ?_ ?_).1
              · rcases List.mem_append.mp m with m | m
                · rcases List.mem_append.mp m with m | m
                  · exact (c1 _ _).1 e m
                  · rw [List.mem_singleton.mp m]; exact hx
                · exact (c1 _ _).1 e m
              · rw [wtA_app, wtA_app]
                have := (c1 none (some v)).2.1
                have := (c1 (some v) none).2.1
                simp only [wtA]
                have := wt_mem hx
                omega
              · simp only [List.length_append, List.length_singleton]
                have := (c1 none (some v)).2.2; have := (c1 (some v) none).2.2; omega
            · by_cases t6 : t = 5
              · refine ⟨_, q2, bind_of (t, q1) e1 (by rw [decide_eq_false ht, cond_false]; exact bind_of false (isInt_eq _) (by rw [s0, cond_false, cond_false]; exact head (bind_of ds rfl (bind_of (v, q2) e2 (by rw [decide_eq_false t3, cond_false, decide_eq_false t5, cond_false, decide_eq_true t6]; rfl))))), ?_, PW.mono h2 (by omega)⟩
                rw [eLD]
                exact (mk ds (fun e m => m) (by omega) (by omega)).2
              · obtain ⟨v', q3, e3, v0', v1', h3⟩ := draw_ok (many := (ds.length : Int)) h2 (by omega) (by omega) (by omega)
                obtain ⟨y, hy, hyi⟩ : ∃ x, x ∈ ds ∧ idx ds v' = some x := ⟨_, List.getElem_mem _, idx_nat v0' v1'⟩
                obtain ⟨k1, hk1, _⟩ := ixN_ok v0 v1
                obtain ⟨k2, hk2, _⟩ := ixN_ok (n := (ds.set k1 y).length) v0' (by rw [List.length_set]; exact v1')
                refine ⟨_, q3, bind_of (t, q1) e1 (by rw [decide_eq_false ht, cond_false]; exact bind_of false (isInt_eq _) (by rw [s0, cond_false, cond_false]; exact head (bind_of ds rfl (bind_of (v, q2) e2 (by rw [decide_eq_false t3, cond_false, decide_eq_false t5, cond_false, decide_eq_false t6, cond_false]; exact bind_of (v', q3) e3 (bind_of y hyi (bind_of k1 hk1 (bind_of x hxi (bind_of k2 hk2 rfl))))))))), ?_, PW.mono h3 (by omega)⟩
                rw [eTD]
                refine (mk _ (fun e m => ?_) ?_ ?_).1
                · rcases List.mem_or_eq_of_mem_set m with m | rfl
                  · rcases List.mem_or_eq_of_mem_set m with m | rfl
                    · exact m
                    · exact hy
                  · exact hx
                · have a1 := wtA_set k2 (ds.set k1 y) x
                  have a2 := wtA_set k1 ds y
                  have := wt_mem hx
                  have := wt_mem hy
                  omega
                · rw [List.length_set, List.length_set]; omega
    -- the first test
    show ∃ d' p', ((oandP (isA "tuple" d) ((sq d).bind fun ds347 => (oandP (decide ((0 : Int) < (ds347.length : Int))) ((m__law_draw p (3 : Int)).bind fun r348 => some ((decide ((0 : Int) < r348.1)), r348.2)) p).bind fun b349 => some (b349.1, b349.2)) p).bind fun b350 => _) = some (d', p') ∧ _
    by_cases htu : isA "tuple" d = true
    · obtain ⟨ds, rfl⟩ := isA_tupD htu
      have ll : max ds.length (mlA ds) ≤ L := by simpa [ml] using hl
      by_cases hz : ds = []
      · subst hz
        obtain ⟨d', p', h1, h2⟩ := second hp (by omega) fun es he => by injection he with he; rw [← he]; simp
        exact ⟨d', p', bind_of (false, p) (by rw [htu, oandP_T]; exact bind_of [] rfl rfl) h1, h2⟩
      · have hpos := List.length_pos_iff.mpr hz
        obtain ⟨v, p1, e1, v0, v1, h1⟩ := draw_ok (many := 3) hp (by omega) (by decide) (by decide)
        have first : oandP (isA "tuple" (PyData.tuple ds)) ((sq (PyData.tuple ds)).bind fun ds347 => (oandP (decide ((0 : Int) < (ds347.length : Int))) ((m__law_draw p (3 : Int)).bind fun r348 => some ((decide ((0 : Int) < r348.1)), r348.2)) p).bind fun b349 => some (b349.1, b349.2)) p = some (decide (0 < v), p1) := by
          rw [htu, oandP_T]
          refine bind_of ds rfl (bind_of (decide (0 < v), p1) ?_ rfl)
          rw [decide_eq_true (show (0 : Int) < (ds.length : Int) by omega), oandP_T]
          exact bind_of (v, p1) e1 rfl
        by_cases hv : 0 < v
        · obtain ⟨a, p2, e2, a0, a1, h2⟩ := draw_ok (many := (ds.length : Int)) h1 (by omega) (by omega) (by omega)
          obtain ⟨x, hx, hxi⟩ : ∃ x, x ∈ ds ∧ idx ds a = some x := ⟨_, List.getElem_mem _, idx_nat a0 a1⟩
          have cA := clsA_iff.mp (show clsA B S ds = true by simpa [cls] using hc)
          have wA : 1 + wtA ds ≤ W := by simpa [wt] using hw
          have dA := (dpA_le (n := dpA ds)).mp (Nat.le_refl _)
          have dd : dp (PyData.tuple ds) = 1 + dpA ds := by simp [dp]
          have lA := (mlA_le (n := mlA ds)).mp (Nat.le_refl _)
          have dx := dA x hx
          have lx := lA x hx
          have wx := wt_mem hx
          obtain ⟨r, p3, e3, R, h3⟩ := bent_ok hB hB1 T hW hL n x h2 (by omega) (cA x hx) (by omega) (by omega) (by omega)
          have c1 : ∀ lo hi, (∀ e ∈ cut ds lo hi, e ∈ ds) ∧ wtA (cut ds lo hi) ≤ wtA ds ∧ (cut ds lo hi).length ≤ L := fun lo hi => ⟨fun e m => mem_cut m, wtA_cut _ _ _, by have := len_cut ds lo hi; omega⟩
          have q1 := c1 none (some a)
          have q2 := c1 (some (a + 1)) none
          refine ⟨_, p3, bind_of (decide (0 < v), p1) first (by
            rw [decide_eq_true hv, cond_true]
            exact bind_of ds rfl (bind_of (a, p2) e2 (bind_of x hxi (bind_of (r, p3) e3 (bind_of () (szOk_ok (by dsimp only; simp only [List.length_cons, List.length_nil]; omega)) (bind_of () (szOk_ok (by dsimp only; simp only [List.length_append, List.length_cons, List.length_nil]; omega)) rfl)))))), ?_, PW.mono h3 (by omega)⟩
          rw [eTD]
          refine (Bt.tup (fun e m => ?_) ?_ (fun e m => ?_) (fun e m => ?_) ?_ (by omega)).1
          · rcases List.mem_append.mp m with m | m
            · rcases List.mem_append.mp m with m | m
              · exact upD _ (cA e (q1.1 e m))
              · rw [List.mem_singleton.mp m]; exact R.c
            · exact upD _ (cA e (q2.1 e m))
          · rw [wtA_app, wtA_app]
            have := R.w
            simp only [wtA]
            omega
          · rcases List.mem_append.mp m with m | m
            · rcases List.mem_append.mp m with m | m
              · have := dA e (q1.1 e m); omega
              · rw [List.mem_singleton.mp m]; have := R.p; dsimp only; omega
            · have := dA e (q2.1 e m); omega
          · rcases List.mem_append.mp m with m | m
            · rcases List.mem_append.mp m with m | m
              · have := lA e (q1.1 e m); omega
              · rw [List.mem_singleton.mp m]; have := R.l; dsimp only; omega
            · have := lA e (q2.1 e m); omega
          · dsimp only
            simp only [List.length_append, List.length_singleton]
            omega
        · obtain ⟨d', p', g1, g2⟩ := second h1 (by omega) fun es he => by injection he with he; rw [← he]; omega
          exact ⟨d', p', bind_of (decide (0 < v), p1) first (by rw [decide_eq_false hv, cond_false]; exact g1), g2⟩
    · have htu : isA "tuple" d = false := by simpa using htu
      obtain ⟨d', p', h1, h2⟩ := second hp (by omega) fun es he => by rw [he] at htu; simp [isA, dty] at htu
      exact ⟨d', p', bind_of (false, p) (by rw [htu]; rfl) h1, h2⟩
end
/-! ### split papers judged, any data -/
section
theorem oor_T {q : Option Bool} : oor true q = some true := rfl
theorem idx0 {α : Type} (x : α) (xs : List α) : idx (x :: xs) (0 : Int) = some x := idx_nat (by omega) (by simp)
theorem toW_ok (x : List Int) : toW (eT PyData.int x) = some x := allI_map x
theorem to2_ok (a : D) (m : Int) (x : List Int) : to2 (cut [a, PyData.int m, eT PyData.int x] (some (1 : Int)) none) = some (m, x) := by
  show (toW (eT PyData.int x)).map (fun w => (m, w)) = some (m, x)
  rw [toW_ok]; rfl
theorem oand_F {q : Option Bool} : oand false q = some false := rfl
def shN (k g : List (List Int)) : Bool := decide (((k.filter (fun x => decide (x ∈ g))).map (fun x => x)).length = 1)
structure Ev (B : Int) (S : List Str) (w : List Int) (e : Int) (g : List (List Int)) : Prop where
  T : TxI B S
  B1 : B ≤ 100
  hB : ∀ n ∈ w, n ≤ B
  F : Few w 60
  X : Txt w (alls w)
  W : WF w e
  all : m__law_all w = some (alls w)
  l60 : (alls w).length ≤ 60
  G : Grp w g
  sb : SeqAt.shaped (PyData.str ("beside" : Str)) = true
  ss : SeqAt.shaped (PyData.str ("stuck" : Str)) = true
variable {B : Int} {S : List Str} {w : List Int} {e : Int} {g : List (List Int)}
theorem eqv_str (a b : Str) : PyData.eqv (PyData.str a) (PyData.str b) = decide (a = b) := by rw [Eqv.str]
theorem gdS_str {d : D} {s : Str} (T : TxI B S) (hd : Sm B S d) (hs : SeqAt.shaped (PyData.str s) = true) : gdS d (PyData.str s) = some () := by
  unfold gdS gd
  rw [hd.shaped T.toTxS, hs]; rfl
theorem isStr_of {d : D} (h : isA "str" d = true) : ∃ s, d = .str s := by
  cases d with
  | str s => exact ⟨s, rfl⟩
  | _ => simp [isA, dty] at h
def nmB (nm : Str) (many : Int) : D → Bool
  | .tuple (.str s :: ds) => decide ((((PyData.str s :: ds).length : Nat) : Int) = many) && decide (s = nm)
  | _ => false
theorem named_any (T : TxI B S) {nm : Str} (hn : SeqAt.shaped (PyData.str nm) = true) {many : Int} (hm : 0 < many) {d : D} (hd : Sm B S d) : m_is_named d nm many = some (nmB nm many d) := by
  unfold m_is_named
  by_cases ht : isA "tuple" d = true
  · obtain ⟨ds, rfl⟩ := isA_tupD ht
    refine bind_of (nmB nm many (.tuple ds)) ?_ rfl
    rw [ht, oand_T]
    refine bind_of ds rfl ?_
    by_cases hl : (ds.length : Int) = many
    · rw [decide_eq_true hl, oand_T]
      match ds, hl, hd with
      | [], hl, _ => exact absurd hl (by simp; omega)
      | x :: xs, hl, hd =>
        refine bind_of (nmB nm many (.tuple (x :: xs))) (bind_of (x :: xs) rfl (bind_of x (idx0 x xs) (bind_of (nmB nm many (.tuple (x :: xs))) ?_ rfl))) rfl
        by_cases hs : isA "str" x = true
        · obtain ⟨s, rfl⟩ := isStr_of hs
          rw [hs, oand_T]
          refine bind_of (PyData.str s :: xs) rfl (bind_of (PyData.str s) (idx0 _ _) (bind_of () (gdS_str T (hd.inT (by simp)) hn) ?_))
          rw [eqv_str]
          show some _ = some (decide ((((PyData.str s :: xs).length : Nat) : Int) = many) && decide (s = nm))
          rw [decide_eq_true hl, Bool.true_and]
        · have hs' : isA "str" x = false := by simpa using hs
          rw [hs', oand_F]
          cases x with
          | str s => simp [isA, dty] at hs'
          | _ => rfl
    · rw [decide_eq_false hl, oand_F]
      show some false = some (nmB nm many (.tuple ds))
      match ds, hl with
      | [], _ => rfl
      | .str s :: xs, hl =>
        show some false = some (decide ((((PyData.str s :: xs).length : Nat) : Int) = many) && decide (s = nm))
        rw [decide_eq_false hl]; rfl
      | .none :: xs, _ => rfl
      | .bool _ :: xs, _ => rfl
      | .int _ :: xs, _ => rfl
      | .list _ :: xs, _ => rfl
      | .tuple _ :: xs, _ => rfl
      | .dict _ :: xs, _ => rfl
  · have ht' : isA "tuple" d = false := by simpa using ht
    rw [ht', oand_F]
    cases d with
    | tuple ds => simp [isA, dty] at ht'
    | _ => rfl
theorem nmB_two {nm : Str} {d : D} (h : nmB nm 2 d = true) : ∃ v, d = .tuple [.str nm, v] := by
  unfold nmB at h
  split at h
  · rename_i s ds
    rw [Bool.and_eq_true, decide_eq_true_eq, decide_eq_true_eq] at h
    obtain ⟨h1, rfl⟩ := h
    match ds, h1 with
    | [v], _ => exact ⟨v, rfl⟩
    | [], h1 => simp at h1
    | _ :: _ :: _, h1 => simp at h1; omega
  · cases h
theorem nmB_three {nm : Str} {d : D} (h : nmB nm 3 d = true) : ∃ a b, d = .tuple [.str nm, a, b] := by
  unfold nmB at h
  split at h
  · rename_i s ds
    rw [Bool.and_eq_true, decide_eq_true_eq, decide_eq_true_eq] at h
    obtain ⟨h1, rfl⟩ := h
    match ds, h1 with
    | [a, b], _ => exact ⟨a, b, rfl⟩
    | [], h1 => simp at h1
    | [_], h1 => simp at h1
    | _ :: _ :: _ :: _, h1 => simp at h1; omega
  · cases h
/-! an element? -/
def elB (d : D) (n : Int) : Bool := match d with
  | .int i => decide (0 ≤ i) && decide (i < n)
  | _ => false
theorem whole_eq (d : D) : m_is_whole d = some (match d with | .int _ => true | _ => false) := by
  cases d <;> simp [m_is_whole, isA, dty]
theorem elB_zip : ∀ {ds : List D} {w : List Int}, ds.length = w.length → (((ds.zip w).map fun p => elB p.1 p.2).all id = true ↔ ∃ x, ds = x.map PyData.int ∧ El w x)
  | [], [], _ => ⟨fun _ => ⟨[], rfl, trivial⟩, fun _ => rfl⟩
  | [], _ :: _, h => by simp at h
  | _ :: _, [], h => by simp at h
  | d :: ds, n :: w, h => by
    have ih := elB_zip (ds := ds) (w := w) (by simpa using h)
    rw [List.zip_cons_cons, List.map_cons, List.all_cons, Bool.and_eq_true, ih]
    constructor
    · rintro ⟨h1, x, rfl, hx⟩
      cases d with
      | int i =>
        simp only [elB, id, Bool.and_eq_true, decide_eq_true_eq] at h1
        exact ⟨i :: x, rfl, h1, hx⟩
      | _ => simp [elB] at h1
    · rintro ⟨x, hx, he⟩
      match x, hx, he with
      | i :: x, hx, he =>
        injection hx with h1 h2
        subst h1 h2
        exact ⟨by simp only [elB, id, Bool.and_eq_true, decide_eq_true_eq]; exact he.1, x, rfl, he.2⟩
theorem elem_any (hw : w.length ≤ 20) {d : D} (hd : Sm B S d) : ∃ b, m_is_element w d = some b ∧ (b = true ↔ ∃ x, El w x ∧ d = eT PyData.int x) := by
  unfold m_is_element
  by_cases ht : isA "tuple" d = true
  · obtain ⟨ds, rfl⟩ := isA_tupD ht
    have hl := hd.lenT
    by_cases hn : ds.length = w.length
    · refine ⟨((ds.zip w).map fun p => elB p.1 p.2).all id, ?_, ?_⟩
      · refine bind_of false (by rw [ht, Bool.not_true, oor_F]; exact bind_of ds rfl (by rw [decide_eq_true (show ((ds.length : Nat) : Int) = (w.length : Int) by omega)]; rfl)) ?_
        rw [cond_false]
        refine bind_of ds rfl (bind_of () (szL_ok (by rw [List.length_zip]; omega)) (bind_of ((ds.zip w).map fun p => elB p.1 p.2) (lcF_all fun p hp => ?_) rfl))
        refine bind_of _ (whole_eq p.1) ?_
        obtain ⟨a, n⟩ := p
        cases a with
        | int i => exact bind_of (elB (.int i) n) (show oand true ((toI (PyData.int i)).bind fun i434 => some (decide ((0 : Int) ≤ i434) && decide (i434 < n))) = some (elB (.int i) n) from rfl) rfl
        | _ => rfl
      · rw [elB_zip hn]
        exact ⟨fun ⟨x, h1, h2⟩ => ⟨x, h2, by rw [h1]⟩, fun ⟨x, h2, h1⟩ => ⟨x, by injection h1, h2⟩⟩
    · refine ⟨false, ?_, ⟨fun h => (nomatch h), fun ⟨x, hx, h⟩ => ?_⟩⟩
      · refine bind_of true (by rw [ht, Bool.not_true, oor_F]; exact bind_of ds rfl (by rw [decide_eq_false (show ¬ ((ds.length : Nat) : Int) = (w.length : Int) by omega)]; rfl)) rfl
      · injection h with h
        rw [h, List.length_map] at hn
        exact absurd hx.len hn
  · have ht' : isA "tuple" d = false := by simpa using ht
    refine ⟨false, bind_of true (by rw [ht']; rfl) rfl, ⟨fun h => (nomatch h), fun ⟨x, hx, h⟩ => ?_⟩⟩
    rw [h] at ht
    exact absurd (by simp [isA, dty]) ht
/-! what is right -/
def Rt (w : List Int) (g : List (List Int)) (d : D) : Prop := (∃ k, d = .tuple [.str ("beside" : Str), eT (eT PyData.int) k] ∧ Grp w k ∧ shN k g = true ∧ k.length * g.length = (alls w).length) ∨
  (∃ (m : Int) (x : List Int), d = .tuple [.str ("stuck" : Str), .int m, eT PyData.int x] ∧ 1 ≤ m ∧ x ∈ g ∧ x ∉ g.map (tm w m) ∧ x ∈ (alls w).map (tm w m))
theorem b_ne_s : ("beside" : Str) ≠ ("stuck" : Str) := by decide +kernel
theorem TW_inj {a b : List (List Int)} (h : eT (eT PyData.int) a = eT (eT PyData.int) b) : a = b := by
  have := congrArg toTW h
  rw [toTW_W, toTW_W] at this
  exact Option.some.inj this
theorem lenI {k : List (List Int)} {n : Nat} : ((k.length : Int) = (n : Int)) ↔ k.length = n := by omega
theorem times_map (E : Ev B S w e g) {m : Int} (hm : -B ≤ m ∧ m ≤ B) {l : List (List Int)} (hl : ∀ x ∈ l, El w x) : lcF (fun (x446 : (List Int)) => (m_times_element w m x446).bind fun r447 => some (some r447)) l = some (l.map (tm w m)) := lcF_all fun x hx => by
  have := E.B1
  rw [times_eq E.W (by omega) (hl x hx)]; rfl
theorem check_any (E : Ev B S w e g) (hneed : m_need_within w g = some ()) {d : D} (hd : Sm B S d) : ∃ b, m_check_split w g d = some b ∧ (b = true ↔ Rt w g d) := by
  have gl := E.F.few g E.G.nd E.G.el
  have k128 : (2 : Nat) ^ 7 = 128 := rfl
  have nb := named_any E.T E.sb (many := 2) (by decide) hd
  have ns := named_any E.T E.ss (many := 3) (by decide) hd
  cases hb : nmB ("beside" : Str) 2 d with
  | true =>
    obtain ⟨v, rfl⟩ := nmB_two hb
    rw [hb] at nb
    obtain ⟨b1, e1, i1⟩ := within_any E.T E.hB E.F (by decide) E.X (hd.inT (d := v) (by simp))
    cases b1 with
    | false =>
      refine ⟨false, ?_, ⟨fun h => (nomatch h), fun h => ?_⟩⟩
      · unfold m_check_split
        refine bind_of () hneed (bind_of true nb ?_)
        rw [cond_true]
        refine bind_of [PyData.str "beside", v] rfl (bind_of v rfl (bind_of false e1 (bind_of true rfl rfl)))
      · rcases h with ⟨k, hk, K, _⟩ | ⟨m, x, hk, _⟩
        · injection hk with hk
          injection hk with _ hk
          injection hk with hk _
          exact absurd (i1.mpr ⟨k, K, hk⟩) (by decide)
        · injection hk with hk
          injection hk with hk _
          injection hk with hk
          exact absurd hk b_ne_s
    | true =>
      obtain ⟨k, K, rfl⟩ := i1.mp rfl
      have kl := E.F.few k K.nd K.el
      cases hs : shN k g with
      | false =>
        refine ⟨false, ?_, ⟨fun h => (nomatch h), fun h => ?_⟩⟩
        · unfold m_check_split
          refine bind_of () hneed (bind_of true nb ?_)
          rw [cond_true]
          refine bind_of [PyData.str "beside", eT (eT PyData.int) k] rfl (bind_of (eT (eT PyData.int) k) rfl (bind_of true e1 (bind_of true ?_ rfl)))
          rw [Bool.not_true, oor_F]
          refine bind_of [PyData.str "beside", eT (eT PyData.int) k] rfl (bind_of (eT (eT PyData.int) k) rfl (bind_of k (toTW_W k) (bind_of () (szL_ok (show k.length ≤ _ by omega)) ?_)))
          have hs := of_decide_eq_false hs
          rw [decide_eq_false (show ¬ ((((k.filter fun x => decide (x ∈ g)).map fun x => x).length : Nat) : Int) = 1 by omega)]; rfl
        · rcases h with ⟨k', hk, K', h1, _⟩ | ⟨m, x, hk, _⟩
          · injection hk with hk
            injection hk with _ hk
            injection hk with hk _
            have := TW_inj hk
            subst this
            rw [hs] at h1; cases h1
          · injection hk with hk
            injection hk with hk _
            injection hk with hk
            exact absurd hk b_ne_s
      | true =>
        refine ⟨decide (k.length * g.length = (alls w).length), ?_, ?_⟩
        · unfold m_check_split
          refine bind_of () hneed (bind_of true nb ?_)
          rw [cond_true]
          refine bind_of [PyData.str "beside", eT (eT PyData.int) k] rfl (bind_of (eT (eT PyData.int) k) rfl (bind_of true e1 (bind_of false ?_ ?_)))
          · rw [Bool.not_true, oor_F]
            refine bind_of [PyData.str "beside", eT (eT PyData.int) k] rfl (bind_of (eT (eT PyData.int) k) rfl (bind_of k (toTW_W k) (bind_of () (szL_ok (show k.length ≤ _ by omega)) ?_)))
            have hs := of_decide_eq_true hs
            rw [decide_eq_true (show ((((k.filter fun x => decide (x ∈ g)).map fun x => x).length : Nat) : Int) = 1 by omega)]; rfl
          · rw [cond_false]
            refine bind_of [PyData.str "beside", eT (eT PyData.int) k] rfl (bind_of (eT (eT PyData.int) k) rfl (bind_of (k.map (eT PyData.int)) rfl ?_))
            rw [List.length_map]
            refine bind_of _ (pmul_b 7 7 (show ((k.length : Int)).natAbs < 2 ^ 7 by omega) (show ((g.length : Int)).natAbs < 2 ^ 7 by omega)) (bind_of _ E.X.all ?_)
            congr 1
            rw [decide_eq_decide]
            exact ⟨fun h => by exact_mod_cast h, fun h => by exact_mod_cast h⟩
        · rw [decide_eq_true_eq]
          refine ⟨fun h => .inl ⟨k, rfl, K, hs, h⟩, fun h => ?_⟩
          rcases h with ⟨k', hk, K', _, h2⟩ | ⟨m, x, hk, _⟩
          · injection hk with hk
            injection hk with _ hk
            injection hk with hk _
            have := TW_inj hk
            subst this
            exact h2
          · injection hk with hk
            injection hk with hk _
            injection hk with hk
            exact absurd hk b_ne_s
  | false =>
    rw [hb] at nb
    have noB : ∀ k, d ≠ .tuple [.str ("beside" : Str), eT (eT PyData.int) k] := fun k hk => by
      rw [hk] at hb
      simp [nmB] at hb
    cases hs : nmB ("stuck" : Str) 3 d with
    | false =>
      rw [hs] at ns
      refine ⟨false, ?_, ⟨fun h => (nomatch h), fun h => ?_⟩⟩
      · unfold m_check_split
        refine bind_of () hneed (bind_of false nb ?_)
        rw [cond_false]
        exact bind_of false ns (bind_of true rfl rfl)
      · rcases h with ⟨k, hk, _⟩ | ⟨m, x, hk, _⟩
        · exact absurd hk (noB k)
        · rw [hk] at hs
          simp [nmB] at hs
    | true =>
      rw [hs] at ns
      obtain ⟨a, b, rfl⟩ := nmB_three hs
      -- the guard
      have guard : ∀ {q : Bool}, ((m_is_whole a).bind fun r315 => (oor (!r315) ((sq (PyData.tuple [PyData.str "stuck", a, b])).bind fun ds316 => (idx ds316 (1 : Int)).bind fun x317 => (toI x317).bind fun i318 => (oor (decide (i318 < (1 : Int))) ((sq (PyData.tuple [PyData.str "stuck", a, b])).bind fun ds328 => (idx ds328 (2 : Int)).bind fun x329 => (m_is_element w x329).bind fun r330 => some (!r330))).bind fun b331 => some b331)).bind fun b332 => some b332) = some q →
          (oor (!true) ((sq (PyData.tuple [PyData.str "stuck", a, b])).bind fun ds313 => (idx ds313 (1 : Int)).bind fun x314 => (m_is_whole x314).bind fun r315 => (oor (!r315) ((sq (PyData.tuple [PyData.str "stuck", a, b])).bind fun ds316 => (idx ds316 (1 : Int)).bind fun x317 => (toI x317).bind fun i318 => (oor (decide (i318 < (1 : Int))) ((sq (PyData.tuple [PyData.str "stuck", a, b])).bind fun ds328 => (idx ds328 (2 : Int)).bind fun x329 => (m_is_element w x329).bind fun r330 => some (!r330))).bind fun b331 => some b331)).bind fun b332 => some b332)) = some q := fun h => by
        rw [Bool.not_true, oor_F]
        exact bind_of [PyData.str "stuck", a, b] rfl (bind_of a rfl h)
      have stop : ((m_is_whole a).bind fun r315 => (oor (!r315) ((sq (PyData.tuple [PyData.str "stuck", a, b])).bind fun ds316 => (idx ds316 (1 : Int)).bind fun x317 => (toI x317).bind fun i318 => (oor (decide (i318 < (1 : Int))) ((sq (PyData.tuple [PyData.str "stuck", a, b])).bind fun ds328 => (idx ds328 (2 : Int)).bind fun x329 => (m_is_element w x329).bind fun r330 => some (!r330))).bind fun b331 => some b331)).bind fun b332 => some b332) = some true → m_check_split w g (PyData.tuple [PyData.str "stuck", a, b]) = some false := fun h => by
        unfold m_check_split
        refine bind_of () hneed (bind_of false nb ?_)
        rw [cond_false]
        exact bind_of true ns (bind_of true (guard h) rfl)
      by_cases hi : ∃ m, a = .int m
      · obtain ⟨m, rfl⟩ := hi
        have smm := (hd.inT (d := PyData.int m) (by simp)).c
        have hm : -B ≤ m ∧ m ≤ B := of_decide_eq_true (by simpa [cls] using smm)
        by_cases h1 : m < 1
        · refine ⟨false, stop ?_, ⟨fun h => (nomatch h), fun h => ?_⟩⟩
          · refine bind_of true (whole_eq _) (bind_of true ?_ rfl)
            rw [Bool.not_true, oor_F]
            refine bind_of [PyData.str "stuck", PyData.int m, b] rfl (bind_of (PyData.int m) rfl (bind_of m rfl (bind_of true ?_ rfl)))
            rw [decide_eq_true h1]; rfl
          · rcases h with ⟨k, hk, _⟩ | ⟨m', x, hk, h2, _⟩
            · exact absurd hk (noB k)
            · injection hk with hk
              injection hk with _ hk
              injection hk with hk _
              injection hk with hk
              omega
        · obtain ⟨c, ec, ic⟩ := elem_any (w := w) E.W.len (hd.inT (d := b) (by simp))
          have run : ((m_is_whole (PyData.int m)).bind fun r315 => (oor (!r315) ((sq (PyData.tuple [PyData.str "stuck", PyData.int m, b])).bind fun ds316 => (idx ds316 (1 : Int)).bind fun x317 => (toI x317).bind fun i318 => (oor (decide (i318 < (1 : Int))) ((sq (PyData.tuple [PyData.str "stuck", PyData.int m, b])).bind fun ds328 => (idx ds328 (2 : Int)).bind fun x329 => (m_is_element w x329).bind fun r330 => some (!r330))).bind fun b331 => some b331)).bind fun b332 => some b332) = some (!c) := by
            refine bind_of true (whole_eq _) (bind_of (!c) ?_ rfl)
            rw [Bool.not_true, oor_F]
            refine bind_of [PyData.str "stuck", PyData.int m, b] rfl (bind_of (PyData.int m) rfl (bind_of m rfl (bind_of (!c) ?_ rfl)))
            rw [decide_eq_false h1, oor_F]
            exact bind_of [PyData.str "stuck", .int m, b] rfl (bind_of b rfl (bind_of c ec rfl))
          cases c with
          | false =>
            refine ⟨false, stop run, ⟨fun h => (nomatch h), fun h => ?_⟩⟩
            rcases h with ⟨k, hk, _⟩ | ⟨m', x, hk, _, h3, _⟩
            · exact absurd hk (noB k)
            · injection hk with hk
              injection hk with _ hk
              injection hk with _ hk
              injection hk with hk _
              exact absurd (ic.mpr ⟨x, E.G.el x h3, hk⟩) (by decide)
          | true =>
            obtain ⟨x, hx, rfl⟩ := ic.mp rfl
            have tg := times_map E hm E.G.el
            have ta := times_map E hm (l := alls w) fun x hx => mem_alls.mp hx
            refine ⟨decide (x ∈ g) && !decide (x ∈ g.map (tm w m)) && decide (x ∈ (alls w).map (tm w m)), ?_, ?_⟩
            · unfold m_check_split
              refine bind_of () hneed (bind_of false nb ?_)
              rw [cond_false]
              refine bind_of true ns (bind_of false (guard run) ?_)
              rw [cond_false]
              refine bind_of [PyData.str "stuck", .int m, eT PyData.int x] rfl (bind_of (m, x) (to2_ok _ m x) (bind_of (!(decide (x ∈ g) && !decide (x ∈ g.map (tm w m)))) ?_ ?_))
              · by_cases h2 : x ∈ g
                · rw [decide_eq_true h2, Bool.not_true, oor_F]
                  refine bind_of () (szL_ok (by omega)) (bind_of _ tg ?_)
                  simp
                · rw [decide_eq_false h2]; rfl
              · cases (decide (x ∈ g) && !decide (x ∈ g.map (tm w m))) with
                | false => rfl
                | true =>
                  refine bind_of _ E.X.all (bind_of () (szL_ok (by have := E.l60; omega)) (bind_of _ ta ?_))
                  rw [Bool.true_and]
            · simp only [Bool.and_eq_true, decide_eq_true_eq, Bool.not_eq_true', decide_eq_false_iff_not]
              constructor
              · rintro ⟨⟨h2, h3⟩, h4⟩
                exact .inr ⟨m, x, rfl, by omega, h2, h3, h4⟩
              · rintro (⟨k, hk, _⟩ | ⟨m', x', hk, _, h2, h3, h4⟩)
                · exact absurd hk (noB k)
                · injection hk with hk
                  injection hk with _ hk
                  injection hk with hk1 hk
                  injection hk with hk2 _
                  injection hk1 with hk1
                  have := eT_inj hk2
                  subst hk1 this
                  exact ⟨⟨h2, h3⟩, h4⟩
      · refine ⟨false, stop ?_, ⟨fun h => (nomatch h), fun h => ?_⟩⟩
        · have hw : m_is_whole a = some false := by
            rw [whole_eq]
            cases a with
            | int m => exact absurd ⟨m, rfl⟩ hi
            | _ => rfl
          exact bind_of false hw (bind_of true rfl rfl)
        · rcases h with ⟨k, hk, _⟩ | ⟨m', x, hk, _⟩
          · exact absurd hk (noB k)
          · injection hk with hk
            injection hk with _ hk
            injection hk with hk _
            exact absurd ⟨m', hk⟩ hi
end
section
variable {B : Int} {S : List Str} {w : List Int} {e : Int} {g : List (List Int)}
theorem shaped_strs {ss : List Str} (h : ∀ s ∈ ss, SeqAt.shaped (PyData.str s) = true) : SeqAt.shaped (eL PyData.str ss) = true := by
  unfold SeqAt.shaped
  have a : PyData.canLayAll0 (ss.map PyData.str) = true := by
    induction ss with
    | nil => simp only [List.map_nil, PyData.canLayAll0]
    | cons s ss ih =>
      simp only [List.map_cons, PyData.canLayAll0, lay_str (h s (by simp)), ih fun t ht => h t (by simp [ht]), Bool.and_self]
  have b : PyData.depthAll (ss.map PyData.str) = 0 := by
    clear h a
    induction ss with
    | nil => simp only [List.map_nil, PyData.depthAll]
    | cons s ss ih => simp only [List.map_cons, PyData.depthAll, PyData.depth, ih, Nat.max_self]
  have c : PyData.canLay0 (eL PyData.str ss) = true := by simp only [PyData.canLay0, a]
  have d : PyData.depth (eL PyData.str ss) = 1 := by simp only [PyData.depth, b]
  rw [c, d]; rfl
theorem ltimes_map (E : Ev B S w e g) {m : Int} (hm : -B ≤ m ∧ m ≤ B) {d : D} {ds : List D} (h1 : sq d = some ds) (h2 : idx ds (1 : Int) = some (PyData.int m)) {l : List (List Int)} (hl : ∀ x ∈ l, El w x) : lcF (fun (x298 : (List Int)) => (sq d).bind fun ds304 => (idx ds304 (1 : Int)).bind fun x305 => (toI x305).bind fun i306 => (m__law_times w i306 x298).bind fun r307 => some (some r307)) l = some (l.map (tm w m)) := lcF_all fun x hx => by
  have := E.B1
  exact bind_of ds h1 (bind_of _ h2 (bind_of m rfl (bind_of _ (ltimes_eq E.W (by omega) (hl x hx)) rfl)))
theorem texts_of (E : Ev B S w e g) {l : List (List Int)} (hl : ∀ x ∈ l, El w x) : lcF (fun (x253 : (List Int)) => (gd (okR ((eT PyData.int) x253))).bind fun u254 => some (some ((((eT PyData.int) x253)).shown))) l = some (l.map fun y => ((eT PyData.int) y).shown) ∧ SeqAt.shaped (eL PyData.str (l.map fun y => ((eT PyData.int) y).shown)) = true := by
  refine ⟨lcF_all fun y hy => bind_of () (by unfold gd; rw [E.X.r y (mem_alls.mpr (hl y hy))]; rfl) rfl, shaped_strs fun s hs => ?_⟩
  obtain ⟨y, hy, rfl⟩ := List.mem_map.mp hs
  exact E.X.s y (mem_alls.mpr (hl y hy))
theorem not_in (E : Ev B S w e g) {l : List (List Int)} (hl : ∀ x ∈ l, El w x) (hz : l.length ≤ 1000) {x : D} (hx : Sm B S x) : (oor (!(isA "tuple" x)) ((gd (okR x)).bind fun u251 => (szL l).bind fun u252 => (lcF (fun (x253 : (List Int)) => (gd (okR ((eT PyData.int) x253))).bind fun u254 => some (some ((((eT PyData.int) x253)).shown))) l).bind fun ys255 => (gd (SeqAt.shaped (PyData.str ((x).shown)))).bind fun u256 => (gd (SeqAt.shaped ((eL PyData.str) ys255))).bind fun u257 => some (!decide ((x).shown ∈ ys255)))) = some (!inTx l x) := by
  obtain ⟨t1, t2⟩ := texts_of E hl
  unfold inTx
  by_cases ht : isA "tuple" x = true
  · rw [ht, Bool.not_true, oor_F, Bool.true_and]
    exact bind_of () (by unfold gd; rw [hx.okR E.T.toTxS]; rfl) (bind_of () (szL_ok (by omega)) (bind_of _ t1 (bind_of () (by unfold gd; rw [hx.shownS E.T.toTxS]; rfl) (bind_of () (by unfold gd; rw [t2]; rfl) rfl))))
  · have ht' : isA "tuple" x = false := by simpa using ht
    rw [ht']; rfl
theorem filt_in {l : List (List Int)} {ds : List D} {f : D → Option (Option D)} (hf : ∀ x ∈ ds, f x = (some (!inTx l x)).bind fun b258 => bif b258 then some (some x) else some none) : lcF f ds = some (ds.filter fun x => !inTx l x) := lcF_filt fun x hx => by
  rw [hf x hx]
  show (bif (!inTx l x) then some (some x) else some none) = _
  cases (!inTx l x) <;> rfl
theorem right_any (E : Ev B S w e g) {d : D} (hd : Sm B S d) : ∃ b, m__law_right w g d = some b ∧ (b = true ↔ Rt w g d) := by
  have gl := E.F.few g E.G.nd E.G.el
  have k128 : (2 : Nat) ^ 7 = 128 := rfl
  have l60 := E.l60
  have ela : ∀ x ∈ alls w, El w x := fun x hx => mem_alls.mp hx
  -- a value that is no tuple of two items and more, the first a text
  have stop0 : (oor (!(isA "tuple" d)) ((sq d).bind fun ds236 => (oor (decide ((ds236.length : Int) < (2 : Int))) ((sq d).bind fun ds237 => (idx ds237 (0 : Int)).bind fun x238 => some (!(isA "str" x238)))).bind fun b239 => some b239)) = some true → (¬ Rt w g d) → ∃ b, m__law_right w g d = some b ∧ (b = true ↔ Rt w g d) := fun h1 h2 => by
    refine ⟨false, ?_, ⟨fun h => (nomatch h), fun h => absurd h h2⟩⟩
    unfold m__law_right
    exact bind_of _ E.all (bind_of true h1 rfl)
  have noRt : (∀ s a ds, d ≠ .tuple (.str s :: a :: ds)) → ¬ Rt w g d := fun h => by
    rintro (⟨k, hk, _⟩ | ⟨m, x, hk, _⟩)
    · exact h _ _ _ hk
    · exact h _ _ _ hk
  by_cases ht : isA "tuple" d = true
  · obtain ⟨ds, rfl⟩ := isA_tupD ht
    match ds, hd with
    | [], hd => exact stop0 (by rw [ht, Bool.not_true, oor_F]; exact bind_of [] rfl rfl) (noRt fun s a ds h => by simp at h)
    | [x], hd => exact stop0 (by rw [ht, Bool.not_true, oor_F]; exact bind_of [x] rfl rfl) (noRt fun s a ds h => by simp at h)
    | x :: v :: r, hd =>
      have hlen : ¬ ((((x :: v :: r).length : Nat) : Int) < 2) := by simp; omega
      by_cases hs : isA "str" x = true
      · obtain ⟨s, rfl⟩ := isStr_of hs
        have g0 : (oor (!(isA "tuple" (PyData.tuple (PyData.str s :: v :: r)))) ((sq (PyData.tuple (PyData.str s :: v :: r))).bind fun ds236 => (oor (decide ((ds236.length : Int) < (2 : Int))) ((sq (PyData.tuple (PyData.str s :: v :: r))).bind fun ds237 => (idx ds237 (0 : Int)).bind fun x238 => some (!(isA "str" x238)))).bind fun b239 => some b239)) = some false := by
          rw [ht, Bool.not_true, oor_F]
          refine bind_of (PyData.str s :: v :: r) rfl (bind_of false ?_ rfl)
          rw [decide_eq_false hlen, oor_F]
          exact bind_of (PyData.str s :: v :: r) rfl (bind_of (PyData.str s) (idx0 _ _) (by rw [hs]; rfl))
        have sx := hd.inT (d := PyData.str s) (by simp)
        have sv := hd.inT (d := v) (by simp)
        have gb := gdS_str E.T sx E.sb
        have gs := gdS_str E.T sx E.ss
        have i0 : idx (PyData.str s :: v :: r) (0 : Int) = some (PyData.str s) := idx0 _ _
        have i1 : idx (PyData.str s :: v :: r) (1 : Int) = some v := idx_nat (by omega) (by simp only [List.length_cons]; omega)
        by_cases hA : s = ("beside" : Str) ∧ r = []
        · obtain ⟨rfl, rfl⟩ := hA
          have only : ∀ {P : Prop}, (∀ k, v = eT (eT PyData.int) k → Grp w k → shN k g = true → k.length * g.length = (alls w).length → P) → Rt w g (PyData.tuple [PyData.str ("beside" : Str), v]) → P := fun h => by
            rintro (⟨k, hk, K, h1, h2⟩ | ⟨m, x, hk, _⟩)
            · injection hk with hk
              injection hk with _ hk
              injection hk with hk _
              exact h k hk K h1 h2
            · injection hk with hk
              injection hk with _ hk
              injection hk with _ hk
              cases hk
          have pre : ∀ {q : Bool}, (((oor (!(isA "tuple" v)) ((sq v).bind fun ds248 => (szL ds248).bind fun u249 => (lcF (fun (x250 : D) => (oor (!(isA "tuple" x250)) ((gd (okR x250)).bind fun u251 => (szL (alls w)).bind fun u252 => (lcF (fun (x253 : (List Int)) => (gd (okR ((eT PyData.int) x253))).bind fun u254 => some (some ((((eT PyData.int) x253)).shown))) (alls w)).bind fun ys255 => (gd (SeqAt.shaped (PyData.str ((x250).shown)))).bind fun u256 => (gd (SeqAt.shaped ((eL PyData.str) ys255))).bind fun u257 => some (!decide ((x250).shown ∈ ys255)))).bind fun b258 => bif b258 then some (some x250) else some none) ds248).bind fun ys259 => some (decide ((0 : Int) < (ys259.length : Int))))).bind fun b260 => bif b260 then some false else (sq v).bind fun ds261 => (oor (decide ((ds261.length : Int) = (0 : Int))) ((toTW v).bind fun w262 => (m__law_made w w262).bind fun r263 => (gdS ((eT (eT PyData.int)) r263) v).bind fun u264 => some (!PyData.eqv ((eT (eT PyData.int)) r263) v))).bind fun b265 => bif b265 then some false else (toTW v).bind fun w266 => (szL w266).bind fun u267 => (oand (decide ((((w266.filter (fun (x268 : (List Int)) => (decide (x268 ∈ g)))).map (fun (x268 : (List Int)) => x268)).length : Int) = (1 : Int))) ((sq v).bind fun ds269 => (pmul (ds269.length : Int) (g.length : Int)).bind fun n270 => some (decide (n270 = ((alls w).length : Int))))).bind fun b271 => some b271)) = some q → m__law_right w g (PyData.tuple [PyData.str ("beside" : Str), v]) = some q := fun h => by
            unfold m__law_right
            refine bind_of _ E.all (bind_of false g0 ?_)
            rw [cond_false]
            refine bind_of [PyData.str ("beside" : Str), v] rfl (bind_of _ i0 (bind_of () gb (bind_of true ?_ ?_)))
            · rw [eqv_str, decide_eq_true rfl]; rfl
            · rw [cond_true]
              exact bind_of [PyData.str ("beside" : Str), v] rfl (bind_of v i1 h)
          by_cases tv : isA "tuple" v = true
          · obtain ⟨ds, rfl⟩ := isA_tupD tv
            have dl := sv.lenT
            have fl := filt_in (l := alls w) (ds := ds) (f := fun (x250 : D) => (oor (!(isA "tuple" x250)) ((gd (okR x250)).bind fun u251 => (szL (alls w)).bind fun u252 => (lcF (fun (x253 : (List Int)) => (gd (okR ((eT PyData.int) x253))).bind fun u254 => some (some ((((eT PyData.int) x253)).shown))) (alls w)).bind fun ys255 => (gd (SeqAt.shaped (PyData.str ((x250).shown)))).bind fun u256 => (gd (SeqAt.shaped ((eL PyData.str) ys255))).bind fun u257 => some (!decide ((x250).shown ∈ ys255)))).bind fun b258 => bif b258 then some (some x250) else some none) fun x hx => by rw [not_in E ela (by omega) (sv.inT hx)]
            by_cases hn : (ds.filter fun x => !inTx (alls w) x) = []
            · have hin : ∀ x ∈ ds, inTx (alls w) x = true := fun x hx => by
                have := List.filter_eq_nil_iff.mp hn x hx
                simpa using this
              have hx : ∀ x ∈ ds, ∃ y, x = eT PyData.int y := fun x hx => by
                obtain ⟨y, _, ey⟩ := inTx_of E.T E.hB ela (sv.inT hx).c (hin x hx)
                exact ⟨y, ey⟩
              obtain ⟨k, rfl⟩ := map_of hx
              have ek : ∀ a ∈ k, El w a := fun a ha => by
                obtain ⟨y, hy, ey⟩ := inTx_of E.T E.hB ela (sv.inT (List.mem_map.mpr ⟨a, ha, rfl⟩)).c (hin _ (List.mem_map.mpr ⟨a, ha, rfl⟩))
                rw [eT_inj ey]
                exact ela y hy
              rw [List.length_map] at dl
              have b0 : (oor (!(isA "tuple" (PyData.tuple (k.map (eT PyData.int))))) ((sq (PyData.tuple (k.map (eT PyData.int)))).bind fun ds248 => (szL ds248).bind fun u249 => (lcF (fun (x250 : D) => (oor (!(isA "tuple" x250)) ((gd (okR x250)).bind fun u251 => (szL (alls w)).bind fun u252 => (lcF (fun (x253 : (List Int)) => (gd (okR ((eT PyData.int) x253))).bind fun u254 => some (some ((((eT PyData.int) x253)).shown))) (alls w)).bind fun ys255 => (gd (SeqAt.shaped (PyData.str ((x250).shown)))).bind fun u256 => (gd (SeqAt.shaped ((eL PyData.str) ys255))).bind fun u257 => some (!decide ((x250).shown ∈ ys255)))).bind fun b258 => bif b258 then some (some x250) else some none) ds248).bind fun ys259 => some (decide ((0 : Int) < (ys259.length : Int))))) = some false := by
                rw [tv, Bool.not_true, oor_F]
                refine bind_of _ rfl (bind_of () (szL_ok (by rw [List.length_map]; omega)) (bind_of _ fl ?_))
                rw [hn]; rfl
              obtain ⟨k', em, K', mem⟩ := lawmade_spec E.F ek (by omega)
              have s2 : SeqAt.shaped (eT (eT PyData.int) k) = true := Sh.shaped (Sh.T (Sh.T Sh.int)) (by decide) k
              have s2' : SeqAt.shaped (eT (eT PyData.int) k') = true := Sh.shaped (Sh.T (Sh.T Sh.int)) (by decide) _
              have e2 : PyData.eqv (eT (eT PyData.int) k') (eT (eT PyData.int) k) = decide (k' = k) := by rw [Eqv.T (Eqv.T Eqv.int)]
              by_cases kz : k = []
              · subst kz
                refine ⟨false, pre (bind_of false b0 (by rw [cond_false]; exact bind_of [] rfl rfl)), ⟨fun h => (nomatch h), only fun k hk K _ _ => ?_⟩⟩
                have := TW_inj (show eT (eT PyData.int) [] = eT (eT PyData.int) k from hk)
                rw [← this] at K
                exact nomatch K.zero
              · have kl : ¬ ((((k.map (eT PyData.int)).length : Nat) : Int) = 0) := by
                  rw [List.length_map]
                  have := List.length_pos_iff.mpr kz
                  omega
                have b1 : (oor (decide ((((k.map (eT PyData.int)).length : Nat) : Int) = (0 : Int))) ((toTW (PyData.tuple (k.map (eT PyData.int)))).bind fun w262 => (m__law_made w w262).bind fun r263 => (gdS ((eT (eT PyData.int)) r263) (PyData.tuple (k.map (eT PyData.int)))).bind fun u264 => some (!PyData.eqv ((eT (eT PyData.int)) r263) (PyData.tuple (k.map (eT PyData.int)))))) = some (!decide (k' = k)) := by
                  rw [decide_eq_false kl, oor_F]
                  refine bind_of k (toTW_W k) (bind_of k' em (bind_of () (by unfold gdS gd; rw [s2', show SeqAt.shaped (PyData.tuple (k.map (eT PyData.int))) = true from s2]; rfl) ?_))
                  show some (!PyData.eqv (eT (eT PyData.int) k') (eT (eT PyData.int) k)) = _
                  rw [e2]
                by_cases hk : k' = k
                · subst hk
                  refine ⟨shN k' g && decide (k'.length * g.length = (alls w).length), pre (bind_of false b0 (by
                    rw [cond_false]
                    refine bind_of _ rfl (bind_of _ b1 ?_)
                    rw [decide_eq_true rfl, Bool.not_true, cond_false]
                    refine bind_of k' (toTW_W k') (bind_of () (szL_ok (by omega)) (bind_of (shN k' g && decide (k'.length * g.length = (alls w).length)) ?_ rfl))
                    have ec : decide ((((k'.filter fun x => decide (x ∈ g)).map fun x => x).length : Int) = 1) = shN k' g := by
                      unfold shN
                      rw [decide_eq_decide]
                      omega
                    rw [ec]
                    cases shN k' g with
                    | false => rfl
                    | true =>
                      rw [oand_T]
                      refine bind_of _ rfl ?_
                      rw [List.length_map]
                      refine bind_of _ (pmul_b 7 7 (show ((k'.length : Int)).natAbs < 2 ^ 7 by omega) (show ((g.length : Int)).natAbs < 2 ^ 7 by omega)) ?_
                      rw [Bool.true_and]
                      congr 1
                      rw [decide_eq_decide]
                      exact ⟨fun h => by exact_mod_cast h, fun h => by exact_mod_cast h⟩)), ?_⟩
                  rw [Bool.and_eq_true, decide_eq_true_eq]
                  constructor
                  · rintro ⟨h1, h2⟩
                    exact .inl ⟨k', rfl, K', h1, h2⟩
                  · exact only fun k hk _ h1 h2 => by
                      have := TW_inj (show eT (eT PyData.int) k' = eT (eT PyData.int) k from hk)
                      subst this
                      exact ⟨h1, h2⟩
                · refine ⟨false, pre (bind_of false b0 (by
                    rw [cond_false]
                    refine bind_of _ rfl (bind_of _ b1 ?_)
                    rw [decide_eq_false hk]; rfl)), ⟨fun h => (nomatch h), only fun k2 hk2 K2 _ _ => ?_⟩⟩
                  have := TW_inj (show eT (eT PyData.int) k = eT (eT PyData.int) k2 from hk2)
                  subst this
                  exact absurd (grp_eq K' K2 fun a => by rw [mem]; exact K2.own) hk
            · refine ⟨false, pre (bind_of true ?_ rfl), ⟨fun h => (nomatch h), only fun k hk K _ _ => ?_⟩⟩
              · rw [tv, Bool.not_true, oor_F]
                refine bind_of ds rfl (bind_of () (szL_ok (by omega)) (bind_of _ fl ?_))
                have := List.length_pos_iff.mpr hn
                rw [decide_eq_true (by omega)]
              · injection hk with hk
                subst hk
                refine absurd (List.filter_eq_nil_iff.mpr fun x hx => ?_) hn
                obtain ⟨a, ha, rfl⟩ := List.mem_map.mp hx
                rw [inTx_yes (mem_alls.mpr (K.el a ha))]; decide
          · have tv' : isA "tuple" v = false := by simpa using tv
            refine ⟨false, pre (bind_of true (by rw [tv']; rfl) rfl), ⟨fun h => (nomatch h), only fun k hk _ _ _ => ?_⟩⟩
            rw [hk] at tv
            exact absurd (by simp [isA, dty]) tv
        · -- the other word
          have preB : ∀ {q : Bool}, ((oor (!PyData.eqv (PyData.str s) (PyData.str ("stuck" : Str))) ((sq (PyData.tuple (PyData.str s :: v :: r))).bind fun ds275 => (oor (!decide ((ds275.length : Int) = (3 : Int))) ((sq (PyData.tuple (PyData.str s :: v :: r))).bind fun ds276 => (idx ds276 (1 : Int)).bind fun x277 => (m__law_is_integer x277).bind fun r278 => (oor (!r278) ((sq (PyData.tuple (PyData.str s :: v :: r))).bind fun ds279 => (idx ds279 (1 : Int)).bind fun x280 => (toI x280).bind fun i281 => some (decide (i281 < (1 : Int))))).bind fun b282 => some b282)).bind fun b283 => some b283)).bind fun b284 => bif b284 then some false else (sq (PyData.tuple (PyData.str s :: v :: r))).bind fun ds285 => (idx ds285 (2 : Int)).bind fun x286 => (oor (!(isA "tuple" x286)) ((sq (PyData.tuple (PyData.str s :: v :: r))).bind fun ds287 => (idx ds287 (2 : Int)).bind fun x288 => (gd (okR x288)).bind fun u289 => (szL g).bind fun u290 => (lcF (fun (x291 : (List Int)) => (gd (okR ((eT PyData.int) x291))).bind fun u292 => some (some ((((eT PyData.int) x291)).shown))) g).bind fun ys293 => (gd (SeqAt.shaped (PyData.str ((x288).shown)))).bind fun u294 => (gd (SeqAt.shaped ((eL PyData.str) ys293))).bind fun u295 => some (!decide ((x288).shown ∈ ys293)))).bind fun b296 => bif b296 then some false else (szL g).bind fun u297 => (lcF (fun (x298 : (List Int)) => (sq (PyData.tuple (PyData.str s :: v :: r))).bind fun ds304 => (idx ds304 (1 : Int)).bind fun x305 => (toI x305).bind fun i306 => (m__law_times w i306 x298).bind fun r307 => some (some r307)) g).bind fun ys308 => (sq (PyData.tuple (PyData.str s :: v :: r))).bind fun ds309 => (idx ds309 (2 : Int)).bind fun x310 => (toW x310).bind fun w311 => (oand (!decide (w311 ∈ ys308)) ((sq (PyData.tuple (PyData.str s :: v :: r))).bind fun ds312 => (idx ds312 (2 : Int)).bind fun x313 => (szL (alls w)).bind fun u314 => (lcF (fun (x315 : (List Int)) => (sq (PyData.tuple (PyData.str s :: v :: r))).bind fun ds316 => (idx ds316 (1 : Int)).bind fun x317 => (toI x317).bind fun i318 => (m__law_times w i318 x315).bind fun r319 => some (some r319)) (alls w)).bind fun ys320 => (toW x313).bind fun w321 => some (decide (w321 ∈ ys320)))).bind fun b322 => some b322) = some q → m__law_right w g (PyData.tuple (PyData.str s :: v :: r)) = some q := fun h => by
            unfold m__law_right
            refine bind_of _ E.all (bind_of false g0 ?_)
            rw [cond_false]
            refine bind_of (PyData.str s :: v :: r) rfl (bind_of _ i0 (bind_of () gb (bind_of false ?_ ?_)))
            · rw [eqv_str]
              by_cases h1 : s = ("beside" : Str)
              · rw [decide_eq_true h1, oand_T]
                refine bind_of (PyData.str s :: v :: r) rfl ?_
                have : r ≠ [] := fun z => hA ⟨h1, z⟩
                have := List.length_pos_iff.mpr this
                rw [decide_eq_false (by simp; omega)]
              · rw [decide_eq_false h1]; rfl
            · rw [cond_false]
              exact bind_of (PyData.str s :: v :: r) rfl (bind_of _ i0 (bind_of () gs h))
          have onlyB : ∀ {P : Prop}, (∀ m x, s = ("stuck" : Str) → v = .int m → r = [eT PyData.int x] → 1 ≤ m → x ∈ g → x ∉ g.map (tm w m) → x ∈ (alls w).map (tm w m) → P) → Rt w g (PyData.tuple (PyData.str s :: v :: r)) → P := fun h => by
            rintro (⟨k, hk, _⟩ | ⟨m, x, hk, h1, h2, h3, h4⟩)
            · injection hk with hk
              injection hk with hk1 hk
              injection hk with _ hk
              injection hk1 with hk1
              exact absurd ⟨hk1, hk⟩ hA
            · injection hk with hk
              injection hk with hk1 hk
              injection hk with hk2 hk
              injection hk1 with hk1
              exact h m x hk1 hk2 hk h1 h2 h3 h4
          have stopB : (oor (!PyData.eqv (PyData.str s) (PyData.str ("stuck" : Str))) ((sq (PyData.tuple (PyData.str s :: v :: r))).bind fun ds275 => (oor (!decide ((ds275.length : Int) = (3 : Int))) ((sq (PyData.tuple (PyData.str s :: v :: r))).bind fun ds276 => (idx ds276 (1 : Int)).bind fun x277 => (m__law_is_integer x277).bind fun r278 => (oor (!r278) ((sq (PyData.tuple (PyData.str s :: v :: r))).bind fun ds279 => (idx ds279 (1 : Int)).bind fun x280 => (toI x280).bind fun i281 => some (decide (i281 < (1 : Int))))).bind fun b282 => some b282)).bind fun b283 => some b283)) = some true → (¬ Rt w g (PyData.tuple (PyData.str s :: v :: r))) → ∃ b, m__law_right w g (PyData.tuple (PyData.str s :: v :: r)) = some b ∧ (b = true ↔ Rt w g (PyData.tuple (PyData.str s :: v :: r))) := fun h1 h2 =>
            ⟨false, preB (bind_of true h1 rfl), ⟨fun h => (nomatch h), fun h => absurd h h2⟩⟩
          by_cases h1 : s = ("stuck" : Str)
          · subst h1
            have cases3 : r = [] ∨ (∃ b, r = [b]) ∨ ∃ b c q, r = b :: c :: q := by
              match r with
              | [] => exact .inl rfl
              | [b] => exact .inr (.inl ⟨b, rfl⟩)
              | b :: c :: q => exact .inr (.inr ⟨b, c, q, rfl⟩)
            rcases cases3 with rfl | ⟨b, rfl⟩ | ⟨b, c, r, rfl⟩
            rotate_left
            · skip
              have sb := hd.inT (d := b) (by simp)
              have i2 : idx [PyData.str ("stuck" : Str), v, b] (2 : Int) = some b := rfl
              by_cases hi : ∃ m, v = .int m
              · obtain ⟨m, rfl⟩ := hi
                have hm : -B ≤ m ∧ m ≤ B := of_decide_eq_true (by simpa [cls] using sv.c)
                have gB : (oor (!PyData.eqv (PyData.str ("stuck" : Str)) (PyData.str ("stuck" : Str))) ((sq (PyData.tuple [PyData.str ("stuck" : Str), PyData.int m, b])).bind fun ds275 => (oor (!decide ((ds275.length : Int) = (3 : Int))) ((sq (PyData.tuple [PyData.str ("stuck" : Str), PyData.int m, b])).bind fun ds276 => (idx ds276 (1 : Int)).bind fun x277 => (m__law_is_integer x277).bind fun r278 => (oor (!r278) ((sq (PyData.tuple [PyData.str ("stuck" : Str), PyData.int m, b])).bind fun ds279 => (idx ds279 (1 : Int)).bind fun x280 => (toI x280).bind fun i281 => some (decide (i281 < (1 : Int))))).bind fun b282 => some b282)).bind fun b283 => some b283)) = some (decide (m < 1)) := by
                  rw [eqv_str, decide_eq_true rfl, Bool.not_true, oor_F]
                  refine bind_of [PyData.str ("stuck" : Str), PyData.int m, b] rfl (bind_of (decide (m < 1)) ?_ rfl)
                  rw [decide_eq_true (by rfl), Bool.not_true, oor_F]
                  refine bind_of [PyData.str ("stuck" : Str), PyData.int m, b] rfl (bind_of (PyData.int m) rfl (bind_of true (isInt_eq _) (bind_of (decide (m < 1)) ?_ rfl)))
                  rw [Bool.not_true, oor_F]
                  exact bind_of [PyData.str ("stuck" : Str), PyData.int m, b] rfl (bind_of (PyData.int m) rfl (bind_of m rfl rfl))
                by_cases m1 : m < 1
                · rw [decide_eq_true m1] at gB
                  refine stopB gB fun h => onlyB (fun m' x _ hm' _ h1 _ _ _ => ?_) h
                  injection hm' with hm'
                  omega
                · rw [decide_eq_false m1] at gB
                  have nin : (oor (!(isA "tuple" b)) ((sq (PyData.tuple [PyData.str ("stuck" : Str), PyData.int m, b])).bind fun ds287 => (idx ds287 (2 : Int)).bind fun x288 => (gd (okR x288)).bind fun u289 => (szL g).bind fun u290 => (lcF (fun (x291 : (List Int)) => (gd (okR ((eT PyData.int) x291))).bind fun u292 => some (some ((((eT PyData.int) x291)).shown))) g).bind fun ys293 => (gd (SeqAt.shaped (PyData.str ((x288).shown)))).bind fun u294 => (gd (SeqAt.shaped ((eL PyData.str) ys293))).bind fun u295 => some (!decide ((x288).shown ∈ ys293)))) = some (!inTx g b) := not_in E E.G.el (by omega) sb
                  cases hb : inTx g b with
                  | false =>
                    rw [hb] at nin
                    refine ⟨false, preB (bind_of false gB (by rw [cond_false]; exact bind_of [PyData.str ("stuck" : Str), PyData.int m, b] rfl (bind_of b i2 (bind_of true nin rfl)))), ⟨fun h => (nomatch h), onlyB fun m' x _ _ hr _ hx _ _ => ?_⟩⟩
                    injection hr with hr _
                    rw [hr, inTx_yes hx] at hb; cases hb
                  | true =>
                    rw [hb] at nin
                    obtain ⟨y, hy, rfl⟩ := inTx_of E.T E.hB E.G.el sb.c hb
                    have t1 := ltimes_map E hm (d := PyData.tuple [PyData.str ("stuck" : Str), PyData.int m, eT PyData.int y]) (ds := [PyData.str ("stuck" : Str), PyData.int m, eT PyData.int y]) rfl rfl E.G.el
                    have t2 := ltimes_map E hm (d := PyData.tuple [PyData.str ("stuck" : Str), PyData.int m, eT PyData.int y]) (ds := [PyData.str ("stuck" : Str), PyData.int m, eT PyData.int y]) rfl rfl ela
                    refine ⟨!decide (y ∈ g.map (tm w m)) && decide (y ∈ (alls w).map (tm w m)), preB (bind_of false gB (by
                      rw [cond_false]
                      refine bind_of [PyData.str ("stuck" : Str), PyData.int m, eT PyData.int y] rfl (bind_of _ i2 (bind_of false nin ?_))
                      rw [cond_false]
                      refine bind_of () (szL_ok (by omega)) (bind_of _ t1 (bind_of [PyData.str ("stuck" : Str), PyData.int m, eT PyData.int y] rfl (bind_of _ i2 (bind_of y (toW_ok y) (bind_of (!decide (y ∈ g.map (tm w m)) && decide (y ∈ (alls w).map (tm w m))) ?_ rfl)))))
                      cases (!decide (y ∈ g.map (tm w m))) with
                      | false => rfl
                      | true =>
                        rw [oand_T, Bool.true_and]
                        exact bind_of [PyData.str ("stuck" : Str), PyData.int m, eT PyData.int y] rfl (bind_of _ i2 (bind_of () (szL_ok (by omega)) (bind_of _ t2 (bind_of y (toW_ok y) rfl)))))), ?_⟩
                    simp only [Bool.and_eq_true, decide_eq_true_eq, Bool.not_eq_true', decide_eq_false_iff_not]
                    constructor
                    · rintro ⟨h3, h4⟩
                      exact .inr ⟨m, y, rfl, by omega, hy, h3, h4⟩
                    · refine onlyB fun m' x _ hm' hr _ _ h3 h4 => ?_
                      injection hm' with hm'
                      injection hr with hr _
                      have := eT_inj hr
                      subst hm' this
                      exact ⟨h3, h4⟩
              · refine stopB ?_ fun h => onlyB (fun m' x _ hm' _ _ _ _ _ => hi ⟨m', hm'⟩) h
                rw [eqv_str, decide_eq_true rfl, Bool.not_true, oor_F]
                refine bind_of [PyData.str ("stuck" : Str), v, b] rfl (bind_of true ?_ rfl)
                rw [decide_eq_true (by rfl), Bool.not_true, oor_F]
                refine bind_of [PyData.str ("stuck" : Str), v, b] rfl (bind_of v rfl (bind_of false ?_ (bind_of true rfl rfl)))
                rw [isInt_eq]
                cases v with
                | int m => exact absurd ⟨m, rfl⟩ hi
                | _ => rfl
            rotate_left
            · skip
              refine stopB ?_ fun h => onlyB (fun m' x _ _ hr _ _ _ _ => nomatch hr) h
              rw [eqv_str, decide_eq_true rfl, Bool.not_true, oor_F]
              exact bind_of [PyData.str ("stuck" : Str), v] rfl rfl
            · skip
              refine stopB ?_ fun h => onlyB (fun m' x _ _ hr _ _ _ _ => by injection hr with _ hr; cases hr) h
              rw [eqv_str, decide_eq_true rfl, Bool.not_true, oor_F]
              refine bind_of (PyData.str ("stuck" : Str) :: v :: b :: c :: r) rfl (bind_of true ?_ rfl)
              rw [decide_eq_false (by simp; omega)]; rfl
          · refine stopB ?_ fun h => onlyB (fun m' x hs' _ _ _ _ _ _ => h1 hs') h
            rw [eqv_str, decide_eq_false h1]; rfl
      · have hs' : isA "str" x = false := by simpa using hs
        refine stop0 ?_ (noRt fun s a ds h => ?_)
        · rw [ht, Bool.not_true, oor_F]
          refine bind_of (x :: v :: r) rfl (bind_of true ?_ rfl)
          rw [decide_eq_false hlen, oor_F]
          exact bind_of (x :: v :: r) rfl (bind_of x (idx0 _ _) (by rw [hs']; rfl))
        · injection h with h
          injection h with h _
          rw [h] at hs
          exact absurd (by simp [isA, dty]) hs
  · have ht' : isA "tuple" d = false := by simpa using ht
    refine stop0 (by rw [ht']; rfl) (noRt fun s a ds h => ?_)
    rw [h] at ht
    exact absurd (by simp [isA, dty]) ht
end
section
def lit_0 : List (List (List Int)) := [[[]]]
def lit_1 : List (List (List Int)) := [[[0]], [[0], [1]]]
def lit_2 : List (List (List Int)) := [[[0]], [[0], [1], [2]]]
def lit_3 : List (List (List Int)) := [[[0, 0]], [[0, 0], [0, 1]], [[0, 0], [1, 0]], [[0, 0], [1, 1]], [[0, 0], [0, 1], [1, 0], [1, 1]]]
def lit_4 : List (List (List Int)) := [[[0]], [[0], [2]], [[0], [1], [2], [3]]]
def lit_5 : List (List (List Int)) := [[[0]], [[0], [1], [2], [3], [4]]]
def lit_6 : List (List (List Int)) := [[[0]], [[0], [3]], [[0], [2], [4]], [[0], [1], [2], [3], [4], [5]]]
def lit_7 : List (List (List Int)) := [[[0]], [[0], [1], [2], [3], [4], [5], [6]]]
def lit_8 : List (List (List Int)) := [[[0, 0, 0]], [[0, 0, 0], [0, 0, 1]], [[0, 0, 0], [0, 1, 0]], [[0, 0, 0], [0, 1, 1]], [[0, 0, 0], [1, 0, 0]], [[0, 0, 0], [1, 0, 1]], [[0, 0, 0], [1, 1, 0]], [[0, 0, 0], [1, 1, 1]], [[0, 0, 0], [0, 0, 1], [0, 1, 0], [0, 1, 1]], [[0, 0, 0], [0, 0, 1], [1, 0, 0], [1, 0, 1]], [[0, 0, 0], [0, 0, 1], [1, 1, 0], [1, 1, 1]], [[0, 0, 0], [0, 1, 0], [1, 0, 0], [1, 1, 0]], [[0, 0, 0], [0, 1, 0], [1, 0, 1], [1, 1, 1]], [[0, 0, 0], [0, 1, 1], [1, 0, 0], [1, 1, 1]], [[0, 0, 0], [0, 1, 1], [1, 0, 1], [1, 1, 0]], [[0, 0, 0], [0, 0, 1], [0, 1, 0], [0, 1, 1], [1, 0, 0], [1, 0, 1], [1, 1, 0], [1, 1, 1]]]
def lit_9 : List (List (List Int)) := [[[0, 0]], [[0, 0], [0, 2]], [[0, 0], [1, 0]], [[0, 0], [1, 2]], [[0, 0], [0, 1], [0, 2], [0, 3]], [[0, 0], [0, 2], [1, 0], [1, 2]], [[0, 0], [0, 2], [1, 1], [1, 3]], [[0, 0], [0, 1], [0, 2], [0, 3], [1, 0], [1, 1], [1, 2], [1, 3]]]
def lit_10 : List (List (List Int)) := [[[0]], [[0], [4]], [[0], [2], [4], [6]], [[0], [1], [2], [3], [4], [5], [6], [7]]]
def lit_11 : List (List (List Int)) := [[[0, 0]], [[0, 0], [0, 1], [0, 2]], [[0, 0], [1, 0], [2, 0]], [[0, 0], [1, 1], [2, 2]], [[0, 0], [1, 2], [2, 1]], [[0, 0], [0, 1], [0, 2], [1, 0], [1, 1], [1, 2], [2, 0], [2, 1], [2, 2]]]
def lit_12 : List (List (List Int)) := [[[0]], [[0], [3], [6]], [[0], [1], [2], [3], [4], [5], [6], [7], [8]]]
def lit_13 : List (List (List Int)) := [[[0]], [[0], [5]], [[0], [2], [4], [6], [8]], [[0], [1], [2], [3], [4], [5], [6], [7], [8], [9]]]
def lit_14 : List (List (List Int)) := [[[0]], [[0], [1], [2], [3], [4], [5], [6], [7], [8], [9], [10]]]
def lit_15 : List (List (List Int)) := [[[0, 0]], [[0, 0], [0, 3]], [[0, 0], [1, 0]], [[0, 0], [1, 3]], [[0, 0], [0, 2], [0, 4]], [[0, 0], [0, 3], [1, 0], [1, 3]], [[0, 0], [0, 1], [0, 2], [0, 3], [0, 4], [0, 5]], [[0, 0], [0, 2], [0, 4], [1, 0], [1, 2], [1, 4]], [[0, 0], [0, 2], [0, 4], [1, 1], [1, 3], [1, 5]], [[0, 0], [0, 1], [0, 2], [0, 3], [0, 4], [0, 5], [1, 0], [1, 1], [1, 2], [1, 3], [1, 4], [1, 5]]]
def lit_16 : List (List (List Int)) := [[[0]], [[0], [6]], [[0], [4], [8]], [[0], [3], [6], [9]], [[0], [2], [4], [6], [8], [10]], [[0], [1], [2], [3], [4], [5], [6], [7], [8], [9], [10], [11]]]
def lit_17 : List (List (List Int)) := [[[0]], [[0], [1], [2], [3], [4], [5], [6], [7], [8], [9], [10], [11], [12]]]
def lit_18 : List (List (List Int)) := [[[0]], [[0], [7]], [[0], [2], [4], [6], [8], [10], [12]], [[0], [1], [2], [3], [4], [5], [6], [7], [8], [9], [10], [11], [12], [13]]]
def lit_19 : List (List (List Int)) := [[[0]], [[0], [5], [10]], [[0], [3], [6], [9], [12]], [[0], [1], [2], [3], [4], [5], [6], [7], [8], [9], [10], [11], [12], [13], [14]]]
def lit_20 : List (List (List Int)) := [[[0, 0, 0, 0]], [[0, 0, 0, 0], [0, 0, 0, 1]], [[0, 0, 0, 0], [0, 0, 1, 0]], [[0, 0, 0, 0], [0, 0, 1, 1]], [[0, 0, 0, 0], [0, 1, 0, 0]], [[0, 0, 0, 0], [0, 1, 0, 1]], [[0, 0, 0, 0], [0, 1, 1, 0]], [[0, 0, 0, 0], [0, 1, 1, 1]], [[0, 0, 0, 0], [1, 0, 0, 0]], [[0, 0, 0, 0], [1, 0, 0, 1]], [[0, 0, 0, 0], [1, 0, 1, 0]], [[0, 0, 0, 0], [1, 0, 1, 1]], [[0, 0, 0, 0], [1, 1, 0, 0]], [[0, 0, 0, 0], [1, 1, 0, 1]], [[0, 0, 0, 0], [1, 1, 1, 0]], [[0, 0, 0, 0], [1, 1, 1, 1]], [[0, 0, 0, 0], [0, 0, 0, 1], [0, 0, 1, 0], [0, 0, 1, 1]], [[0, 0, 0, 0], [0, 0, 0, 1], [0, 1, 0, 0], [0, 1, 0, 1]], [[0, 0, 0, 0], [0, 0, 0, 1], [0, 1, 1, 0], [0, 1, 1, 1]], [[0, 0, 0, 0], [0, 0, 0, 1], [1, 0, 0, 0], [1, 0, 0, 1]], [[0, 0, 0, 0], [0, 0, 0, 1], [1, 0, 1, 0], [1, 0, 1, 1]], [[0, 0, 0, 0], [0, 0, 0, 1], [1, 1, 0, 0], [1, 1, 0, 1]], [[0, 0, 0, 0], [0, 0, 0, 1], [1, 1, 1, 0], [1, 1, 1, 1]], [[0, 0, 0, 0], [0, 0, 1, 0], [0, 1, 0, 0], [0, 1, 1, 0]], [[0, 0, 0, 0], [0, 0, 1, 0], [0, 1, 0, 1], [0, 1, 1, 1]], [[0, 0, 0, 0], [0, 0, 1, 0], [1, 0, 0, 0], [1, 0, 1, 0]], [[0, 0, 0, 0], [0, 0, 1, 0], [1, 0, 0, 1], [1, 0, 1, 1]], [[0, 0, 0, 0], [0, 0, 1, 0], [1, 1, 0, 0], [1, 1, 1, 0]], [[0, 0, 0, 0], [0, 0, 1, 0], [1, 1, 0, 1], [1, 1, 1, 1]], [[0, 0, 0, 0], [0, 0, 1, 1], [0, 1, 0, 0], [0, 1, 1, 1]], [[0, 0, 0, 0], [0, 0, 1, 1], [0, 1, 0, 1], [0, 1, 1, 0]], [[0, 0, 0, 0], [0, 0, 1, 1], [1, 0, 0, 0], [1, 0, 1, 1]], [[0, 0, 0, 0], [0, 0, 1, 1], [1, 0, 0, 1], [1, 0, 1, 0]], [[0, 0, 0, 0], [0, 0, 1, 1], [1, 1, 0, 0], [1, 1, 1, 1]], [[0, 0, 0, 0], [0, 0, 1, 1], [1, 1, 0, 1], [1, 1, 1, 0]], [[0, 0, 0, 0], [0, 1, 0, 0], [1, 0, 0, 0], [1, 1, 0, 0]], [[0, 0, 0, 0], [0, 1, 0, 0], [1, 0, 0, 1], [1, 1, 0, 1]], [[0, 0, 0, 0], [0, 1, 0, 0], [1, 0, 1, 0], [1, 1, 1, 0]], [[0, 0, 0, 0], [0, 1, 0, 0], [1, 0, 1, 1], [1, 1, 1, 1]], [[0, 0, 0, 0], [0, 1, 0, 1], [1, 0, 0, 0], [1, 1, 0, 1]], [[0, 0, 0, 0], [0, 1, 0, 1], [1, 0, 0, 1], [1, 1, 0, 0]], [[0, 0, 0, 0], [0, 1, 0, 1], [1, 0, 1, 0], [1, 1, 1, 1]], [[0, 0, 0, 0], [0, 1, 0, 1], [1, 0, 1, 1], [1, 1, 1, 0]], [[0, 0, 0, 0], [0, 1, 1, 0], [1, 0, 0, 0], [1, 1, 1, 0]], [[0, 0, 0, 0], [0, 1, 1, 0], [1, 0, 0, 1], [1, 1, 1, 1]], [[0, 0, 0, 0], [0, 1, 1, 0], [1, 0, 1, 0], [1, 1, 0, 0]], [[0, 0, 0, 0], [0, 1, 1, 0], [1, 0, 1, 1], [1, 1, 0, 1]], [[0, 0, 0, 0], [0, 1, 1, 1], [1, 0, 0, 0], [1, 1, 1, 1]], [[0, 0, 0, 0], [0, 1, 1, 1], [1, 0, 0, 1], [1, 1, 1, 0]], [[0, 0, 0, 0], [0, 1, 1, 1], [1, 0, 1, 0], [1, 1, 0, 1]], [[0, 0, 0, 0], [0, 1, 1, 1], [1, 0, 1, 1], [1, 1, 0, 0]], [[0, 0, 0, 0], [0, 0, 0, 1], [0, 0, 1, 0], [0, 0, 1, 1], [0, 1, 0, 0], [0, 1, 0, 1], [0, 1, 1, 0], [0, 1, 1, 1]], [[0, 0, 0, 0], [0, 0, 0, 1], [0, 0, 1, 0], [0, 0, 1, 1], [1, 0, 0, 0], [1, 0, 0, 1], [1, 0, 1, 0], [1, 0, 1, 1]], [[0, 0, 0, 0], [0, 0, 0, 1], [0, 0, 1, 0], [0, 0, 1, 1], [1, 1, 0, 0], [1, 1, 0, 1], [1, 1, 1, 0], [1, 1, 1, 1]], [[0, 0, 0, 0], [0, 0, 0, 1], [0, 1, 0, 0], [0, 1, 0, 1], [1, 0, 0, 0], [1, 0, 0, 1], [1, 1, 0, 0], [1, 1, 0, 1]], [[0, 0, 0, 0], [0, 0, 0, 1], [0, 1, 0, 0], [0, 1, 0, 1], [1, 0, 1, 0], [1, 0, 1, 1], [1, 1, 1, 0], [1, 1, 1, 1]], [[0, 0, 0, 0], [0, 0, 0, 1], [0, 1, 1, 0], [0, 1, 1, 1], [1, 0, 0, 0], [1, 0, 0, 1], [1, 1, 1, 0], [1, 1, 1, 1]], [[0, 0, 0, 0], [0, 0, 0, 1], [0, 1, 1, 0], [0, 1, 1, 1], [1, 0, 1, 0], [1, 0, 1, 1], [1, 1, 0, 0], [1, 1, 0, 1]], [[0, 0, 0, 0], [0, 0, 1, 0], [0, 1, 0, 0], [0, 1, 1, 0], [1, 0, 0, 0], [1, 0, 1, 0], [1, 1, 0, 0], [1, 1, 1, 0]], [[0, 0, 0, 0], [0, 0, 1, 0], [0, 1, 0, 0], [0, 1, 1, 0], [1, 0, 0, 1], [1, 0, 1, 1], [1, 1, 0, 1], [1, 1, 1, 1]], [[0, 0, 0, 0], [0, 0, 1, 0], [0, 1, 0, 1], [0, 1, 1, 1], [1, 0, 0, 0], [1, 0, 1, 0], [1, 1, 0, 1], [1, 1, 1, 1]], [[0, 0, 0, 0], [0, 0, 1, 0], [0, 1, 0, 1], [0, 1, 1, 1], [1, 0, 0, 1], [1, 0, 1, 1], [1, 1, 0, 0], [1, 1, 1, 0]], [[0, 0, 0, 0], [0, 0, 1, 1], [0, 1, 0, 0], [0, 1, 1, 1], [1, 0, 0, 0], [1, 0, 1, 1], [1, 1, 0, 0], [1, 1, 1, 1]], [[0, 0, 0, 0], [0, 0, 1, 1], [0, 1, 0, 0], [0, 1, 1, 1], [1, 0, 0, 1], [1, 0, 1, 0], [1, 1, 0, 1], [1, 1, 1, 0]], [[0, 0, 0, 0], [0, 0, 1, 1], [0, 1, 0, 1], [0, 1, 1, 0], [1, 0, 0, 0], [1, 0, 1, 1], [1, 1, 0, 1], [1, 1, 1, 0]], [[0, 0, 0, 0], [0, 0, 1, 1], [0, 1, 0, 1], [0, 1, 1, 0], [1, 0, 0, 1], [1, 0, 1, 0], [1, 1, 0, 0], [1, 1, 1, 1]], [[0, 0, 0, 0], [0, 0, 0, 1], [0, 0, 1, 0], [0, 0, 1, 1], [0, 1, 0, 0], [0, 1, 0, 1], [0, 1, 1, 0], [0, 1, 1, 1], [1, 0, 0, 0], [1, 0, 0, 1], [1, 0, 1, 0], [1, 0, 1, 1], [1, 1, 0, 0], [1, 1, 0, 1], [1, 1, 1, 0], [1, 1, 1, 1]]]
def lit_21 : List (List (List Int)) := [[[0, 0, 0]], [[0, 0, 0], [0, 0, 2]], [[0, 0, 0], [0, 1, 0]], [[0, 0, 0], [0, 1, 2]], [[0, 0, 0], [1, 0, 0]], [[0, 0, 0], [1, 0, 2]], [[0, 0, 0], [1, 1, 0]], [[0, 0, 0], [1, 1, 2]], [[0, 0, 0], [0, 0, 1], [0, 0, 2], [0, 0, 3]], [[0, 0, 0], [0, 0, 2], [0, 1, 0], [0, 1, 2]], [[0, 0, 0], [0, 0, 2], [0, 1, 1], [0, 1, 3]], [[0, 0, 0], [0, 0, 2], [1, 0, 0], [1, 0, 2]], [[0, 0, 0], [0, 0, 2], [1, 0, 1], [1, 0, 3]], [[0, 0, 0], [0, 0, 2], [1, 1, 0], [1, 1, 2]], [[0, 0, 0], [0, 0, 2], [1, 1, 1], [1, 1, 3]], [[0, 0, 0], [0, 1, 0], [1, 0, 0], [1, 1, 0]], [[0, 0, 0], [0, 1, 0], [1, 0, 2], [1, 1, 2]], [[0, 0, 0], [0, 1, 2], [1, 0, 0], [1, 1, 2]], [[0, 0, 0], [0, 1, 2], [1, 0, 2], [1, 1, 0]], [[0, 0, 0], [0, 0, 1], [0, 0, 2], [0, 0, 3], [0, 1, 0], [0, 1, 1], [0, 1, 2], [0, 1, 3]], [[0, 0, 0], [0, 0, 1], [0, 0, 2], [0, 0, 3], [1, 0, 0], [1, 0, 1], [1, 0, 2], [1, 0, 3]], [[0, 0, 0], [0, 0, 1], [0, 0, 2], [0, 0, 3], [1, 1, 0], [1, 1, 1], [1, 1, 2], [1, 1, 3]], [[0, 0, 0], [0, 0, 2], [0, 1, 0], [0, 1, 2], [1, 0, 0], [1, 0, 2], [1, 1, 0], [1, 1, 2]], [[0, 0, 0], [0, 0, 2], [0, 1, 0], [0, 1, 2], [1, 0, 1], [1, 0, 3], [1, 1, 1], [1, 1, 3]], [[0, 0, 0], [0, 0, 2], [0, 1, 1], [0, 1, 3], [1, 0, 0], [1, 0, 2], [1, 1, 1], [1, 1, 3]], [[0, 0, 0], [0, 0, 2], [0, 1, 1], [0, 1, 3], [1, 0, 1], [1, 0, 3], [1, 1, 0], [1, 1, 2]], [[0, 0, 0], [0, 0, 1], [0, 0, 2], [0, 0, 3], [0, 1, 0], [0, 1, 1], [0, 1, 2], [0, 1, 3], [1, 0, 0], [1, 0, 1], [1, 0, 2], [1, 0, 3], [1, 1, 0], [1, 1, 1], [1, 1, 2], [1, 1, 3]]]
def lit_22 : List (List (List Int)) := [[[0, 0]], [[0, 0], [0, 4]], [[0, 0], [1, 0]], [[0, 0], [1, 4]], [[0, 0], [0, 2], [0, 4], [0, 6]], [[0, 0], [0, 4], [1, 0], [1, 4]], [[0, 0], [0, 4], [1, 2], [1, 6]], [[0, 0], [0, 1], [0, 2], [0, 3], [0, 4], [0, 5], [0, 6], [0, 7]], [[0, 0], [0, 2], [0, 4], [0, 6], [1, 0], [1, 2], [1, 4], [1, 6]], [[0, 0], [0, 2], [0, 4], [0, 6], [1, 1], [1, 3], [1, 5], [1, 7]], [[0, 0], [0, 1], [0, 2], [0, 3], [0, 4], [0, 5], [0, 6], [0, 7], [1, 0], [1, 1], [1, 2], [1, 3], [1, 4], [1, 5], [1, 6], [1, 7]]]
def lit_23 : List (List (List Int)) := [[[0, 0]], [[0, 0], [0, 2]], [[0, 0], [2, 0]], [[0, 0], [2, 2]], [[0, 0], [0, 1], [0, 2], [0, 3]], [[0, 0], [0, 2], [2, 0], [2, 2]], [[0, 0], [0, 2], [2, 1], [2, 3]], [[0, 0], [1, 0], [2, 0], [3, 0]], [[0, 0], [1, 1], [2, 2], [3, 3]], [[0, 0], [1, 2], [2, 0], [3, 2]], [[0, 0], [1, 3], [2, 2], [3, 1]], [[0, 0], [0, 1], [0, 2], [0, 3], [2, 0], [2, 1], [2, 2], [2, 3]], [[0, 0], [0, 2], [1, 0], [1, 2], [2, 0], [2, 2], [3, 0], [3, 2]], [[0, 0], [0, 2], [1, 1], [1, 3], [2, 0], [2, 2], [3, 1], [3, 3]], [[0, 0], [0, 1], [0, 2], [0, 3], [1, 0], [1, 1], [1, 2], [1, 3], [2, 0], [2, 1], [2, 2], [2, 3], [3, 0], [3, 1], [3, 2], [3, 3]]]
def lit_24 : List (List (List Int)) := [[[0]], [[0], [8]], [[0], [4], [8], [12]], [[0], [2], [4], [6], [8], [10], [12], [14]], [[0], [1], [2], [3], [4], [5], [6], [7], [8], [9], [10], [11], [12], [13], [14], [15]]]
def lit_25 : List (List (List Int)) := [[[0]], [[0], [1], [2], [3], [4], [5], [6], [7], [8], [9], [10], [11], [12], [13], [14], [15], [16]]]
def lit_26 : List (List (List Int)) := [[[0, 0]], [[0, 0], [0, 3]], [[0, 0], [0, 2], [0, 4]], [[0, 0], [1, 0], [2, 0]], [[0, 0], [1, 2], [2, 4]], [[0, 0], [1, 4], [2, 2]], [[0, 0], [0, 1], [0, 2], [0, 3], [0, 4], [0, 5]], [[0, 0], [0, 3], [1, 0], [1, 3], [2, 0], [2, 3]], [[0, 0], [0, 3], [1, 1], [1, 4], [2, 2], [2, 5]], [[0, 0], [0, 3], [1, 2], [1, 5], [2, 1], [2, 4]], [[0, 0], [0, 2], [0, 4], [1, 0], [1, 2], [1, 4], [2, 0], [2, 2], [2, 4]], [[0, 0], [0, 1], [0, 2], [0, 3], [0, 4], [0, 5], [1, 0], [1, 1], [1, 2], [1, 3], [1, 4], [1, 5], [2, 0], [2, 1], [2, 2], [2, 3], [2, 4], [2, 5]]]
def lit_27 : List (List (List Int)) := [[[0]], [[0], [9]], [[0], [6], [12]], [[0], [3], [6], [9], [12], [15]], [[0], [2], [4], [6], [8], [10], [12], [14], [16]], [[0], [1], [2], [3], [4], [5], [6], [7], [8], [9], [10], [11], [12], [13], [14], [15], [16], [17]]]
def lit_28 : List (List (List Int)) := [[[0]], [[0], [1], [2], [3], [4], [5], [6], [7], [8], [9], [10], [11], [12], [13], [14], [15], [16], [17], [18]]]
def lit_29 : List (List (List Int)) := [[[0, 0]], [[0, 0], [0, 5]], [[0, 0], [1, 0]], [[0, 0], [1, 5]], [[0, 0], [0, 5], [1, 0], [1, 5]], [[0, 0], [0, 2], [0, 4], [0, 6], [0, 8]], [[0, 0], [0, 1], [0, 2], [0, 3], [0, 4], [0, 5], [0, 6], [0, 7], [0, 8], [0, 9]], [[0, 0], [0, 2], [0, 4], [0, 6], [0, 8], [1, 0], [1, 2], [1, 4], [1, 6], [1, 8]], [[0, 0], [0, 2], [0, 4], [0, 6], [0, 8], [1, 1], [1, 3], [1, 5], [1, 7], [1, 9]], [[0, 0], [0, 1], [0, 2], [0, 3], [0, 4], [0, 5], [0, 6], [0, 7], [0, 8], [0, 9], [1, 0], [1, 1], [1, 2], [1, 3], [1, 4], [1, 5], [1, 6], [1, 7], [1, 8], [1, 9]]]
def lit_30 : List (List (List Int)) := [[[0]], [[0], [10]], [[0], [5], [10], [15]], [[0], [4], [8], [12], [16]], [[0], [2], [4], [6], [8], [10], [12], [14], [16], [18]], [[0], [1], [2], [3], [4], [5], [6], [7], [8], [9], [10], [11], [12], [13], [14], [15], [16], [17], [18], [19]]]
def lit_31 : List (List (List Int)) := [[[0]], [[0], [7], [14]], [[0], [3], [6], [9], [12], [15], [18]], [[0], [1], [2], [3], [4], [5], [6], [7], [8], [9], [10], [11], [12], [13], [14], [15], [16], [17], [18], [19], [20]]]
def lit_32 : List (List (List Int)) := [[[0]], [[0], [11]], [[0], [2], [4], [6], [8], [10], [12], [14], [16], [18], [20]], [[0], [1], [2], [3], [4], [5], [6], [7], [8], [9], [10], [11], [12], [13], [14], [15], [16], [17], [18], [19], [20], [21]]]
def lit_33 : List (List (List Int)) := [[[0]], [[0], [1], [2], [3], [4], [5], [6], [7], [8], [9], [10], [11], [12], [13], [14], [15], [16], [17], [18], [19], [20], [21], [22]]]
def lit_34 : List (List (List Int)) := [[[0, 0, 0]], [[0, 0, 0], [0, 0, 3]], [[0, 0, 0], [0, 1, 0]], [[0, 0, 0], [0, 1, 3]], [[0, 0, 0], [1, 0, 0]], [[0, 0, 0], [1, 0, 3]], [[0, 0, 0], [1, 1, 0]], [[0, 0, 0], [1, 1, 3]], [[0, 0, 0], [0, 0, 2], [0, 0, 4]], [[0, 0, 0], [0, 0, 3], [0, 1, 0], [0, 1, 3]], [[0, 0, 0], [0, 0, 3], [1, 0, 0], [1, 0, 3]], [[0, 0, 0], [0, 0, 3], [1, 1, 0], [1, 1, 3]], [[0, 0, 0], [0, 1, 0], [1, 0, 0], [1, 1, 0]], [[0, 0, 0], [0, 1, 0], [1, 0, 3], [1, 1, 3]], [[0, 0, 0], [0, 1, 3], [1, 0, 0], [1, 1, 3]], [[0, 0, 0], [0, 1, 3], [1, 0, 3], [1, 1, 0]], [[0, 0, 0], [0, 0, 1], [0, 0, 2], [0, 0, 3], [0, 0, 4], [0, 0, 5]], [[0, 0, 0], [0, 0, 2], [0, 0, 4], [0, 1, 0], [0, 1, 2], [0, 1, 4]], [[0, 0, 0], [0, 0, 2], [0, 0, 4], [0, 1, 1], [0, 1, 3], [0, 1, 5]], [[0, 0, 0], [0, 0, 2], [0, 0, 4], [1, 0, 0], [1, 0, 2], [1, 0, 4]], [[0, 0, 0], [0, 0, 2], [0, 0, 4], [1, 0, 1], [1, 0, 3], [1, 0, 5]], [[0, 0, 0], [0, 0, 2], [0, 0, 4], [1, 1, 0], [1, 1, 2], [1, 1, 4]], [[0, 0, 0], [0, 0, 2], [0, 0, 4], [1, 1, 1], [1, 1, 3], [1, 1, 5]], [[0, 0, 0], [0, 0, 3], [0, 1, 0], [0, 1, 3], [1, 0, 0], [1, 0, 3], [1, 1, 0], [1, 1, 3]], [[0, 0, 0], [0, 0, 1], [0, 0, 2], [0, 0, 3], [0, 0, 4], [0, 0, 5], [0, 1, 0], [0, 1, 1], [0, 1, 2], [0, 1, 3], [0, 1, 4], [0, 1, 5]], [[0, 0, 0], [0, 0, 1], [0, 0, 2], [0, 0, 3], [0, 0, 4], [0, 0, 5], [1, 0, 0], [1, 0, 1], [1, 0, 2], [1, 0, 3], [1, 0, 4], [1, 0, 5]], [[0, 0, 0], [0, 0, 1], [0, 0, 2], [0, 0, 3], [0, 0, 4], [0, 0, 5], [1, 1, 0], [1, 1, 1], [1, 1, 2], [1, 1, 3], [1, 1, 4], [1, 1, 5]], [[0, 0, 0], [0, 0, 2], [0, 0, 4], [0, 1, 0], [0, 1, 2], [0, 1, 4], [1, 0, 0], [1, 0, 2], [1, 0, 4], [1, 1, 0], [1, 1, 2], [1, 1, 4]], [[0, 0, 0], [0, 0, 2], [0, 0, 4], [0, 1, 0], [0, 1, 2], [0, 1, 4], [1, 0, 1], [1, 0, 3], [1, 0, 5], [1, 1, 1], [1, 1, 3], [1, 1, 5]], [[0, 0, 0], [0, 0, 2], [0, 0, 4], [0, 1, 1], [0, 1, 3], [0, 1, 5], [1, 0, 0], [1, 0, 2], [1, 0, 4], [1, 1, 1], [1, 1, 3], [1, 1, 5]], [[0, 0, 0], [0, 0, 2], [0, 0, 4], [0, 1, 1], [0, 1, 3], [0, 1, 5], [1, 0, 1], [1, 0, 3], [1, 0, 5], [1, 1, 0], [1, 1, 2], [1, 1, 4]], [[0, 0, 0], [0, 0, 1], [0, 0, 2], [0, 0, 3], [0, 0, 4], [0, 0, 5], [0, 1, 0], [0, 1, 1], [0, 1, 2], [0, 1, 3], [0, 1, 4], [0, 1, 5], [1, 0, 0], [1, 0, 1], [1, 0, 2], [1, 0, 3], [1, 0, 4], [1, 0, 5], [1, 1, 0], [1, 1, 1], [1, 1, 2], [1, 1, 3], [1, 1, 4], [1, 1, 5]]]
def lit_35 : List (List (List Int)) := [[[0, 0]], [[0, 0], [0, 6]], [[0, 0], [1, 0]], [[0, 0], [1, 6]], [[0, 0], [0, 4], [0, 8]], [[0, 0], [0, 3], [0, 6], [0, 9]], [[0, 0], [0, 6], [1, 0], [1, 6]], [[0, 0], [0, 6], [1, 3], [1, 9]], [[0, 0], [0, 2], [0, 4], [0, 6], [0, 8], [0, 10]], [[0, 0], [0, 4], [0, 8], [1, 0], [1, 4], [1, 8]], [[0, 0], [0, 4], [0, 8], [1, 2], [1, 6], [1, 10]], [[0, 0], [0, 3], [0, 6], [0, 9], [1, 0], [1, 3], [1, 6], [1, 9]], [[0, 0], [0, 1], [0, 2], [0, 3], [0, 4], [0, 5], [0, 6], [0, 7], [0, 8], [0, 9], [0, 10], [0, 11]], [[0, 0], [0, 2], [0, 4], [0, 6], [0, 8], [0, 10], [1, 0], [1, 2], [1, 4], [1, 6], [1, 8], [1, 10]], [[0, 0], [0, 2], [0, 4], [0, 6], [0, 8], [0, 10], [1, 1], [1, 3], [1, 5], [1, 7], [1, 9], [1, 11]], [[0, 0], [0, 1], [0, 2], [0, 3], [0, 4], [0, 5], [0, 6], [0, 7], [0, 8], [0, 9], [0, 10], [0, 11], [1, 0], [1, 1], [1, 2], [1, 3], [1, 4], [1, 5], [1, 6], [1, 7], [1, 8], [1, 9], [1, 10], [1, 11]]]
def lit_36 : List (List (List Int)) := [[[0]], [[0], [12]], [[0], [8], [16]], [[0], [6], [12], [18]], [[0], [4], [8], [12], [16], [20]], [[0], [3], [6], [9], [12], [15], [18], [21]], [[0], [2], [4], [6], [8], [10], [12], [14], [16], [18], [20], [22]], [[0], [1], [2], [3], [4], [5], [6], [7], [8], [9], [10], [11], [12], [13], [14], [15], [16], [17], [18], [19], [20], [21], [22], [23]]]
def litT : List (List Int × List (List (List Int))) := [([], lit_0), ([2], lit_1), ([3], lit_2), ([2, 2], lit_3), ([4], lit_4), ([5], lit_5), ([6], lit_6), ([7], lit_7), ([2, 2, 2], lit_8), ([2, 4], lit_9), ([8], lit_10), ([3, 3], lit_11), ([9], lit_12), ([10], lit_13), ([11], lit_14), ([2, 6], lit_15), ([12], lit_16), ([13], lit_17), ([14], lit_18), ([15], lit_19), ([2, 2, 2, 2], lit_20), ([2, 2, 4], lit_21), ([2, 8], lit_22), ([4, 4], lit_23), ([16], lit_24), ([17], lit_25), ([3, 6], lit_26), ([18], lit_27), ([19], lit_28), ([2, 10], lit_29), ([20], lit_30), ([21], lit_31), ([22], lit_32), ([23], lit_33), ([2, 2, 6], lit_34), ([2, 12], lit_35), ([24], lit_36)]
def litOf (w : List Int) : List (List (List Int)) := ((litT.find? fun e => e.1 == w).map (·.2)).getD []
end
/-! ### split papers -/
section
def bes (x_wheels : (List Int)) (x_group : (List (List Int))) : Option (Option (List (List Int))) := (m_elements_of x_wheels).bind fun r236 => (pdiv (r236.length : Int) (x_group.length : Int)).bind fun n237 => (some (litOf x_wheels)).bind fun r263 => (forR (ρ := (Option (List (List Int)))) (fun (x265 : (List (List Int))) (s264 : Unit) => (oand (decide ((x265.length : Int) = n237)) ((szL x265).bind fun u266 => some (decide ((((x265.filter (fun (x267 : (List Int)) => (decide (x267 ∈ x_group)))).map (fun (x267 : (List Int)) => x267)).length : Int) = (1 : Int))))).bind fun b268 => bif b268 then some (.inr (some x265)) else some (.inl ())) r263 ()).bind fun z269 => onR z269 (fun (s270 : Unit) => some none) (fun r0 => some r0)
def spl (x_wheels : (List Int)) (x_group : (List (List Int))) : Option D := (m_exponent_of x_wheels).bind fun r229 => (rng (2 : Int) (r229 + (1 : Int))).bind fun ks230 => (forR (ρ := D) (fun (x232 : Int) (s231 : Unit) => (m_stuck_at x_wheels x_group x232).bind fun r233 => bif (!isNone ((eO (eT PyData.int)) r233)) then some (.inr ((eQ PyData.str PyData.int (eO (eT PyData.int))) (("stuck" : Str), x232, r233))) else some (.inl ())) ks230 ()).bind fun z234 => onR z234 (fun (s235 : Unit) => (bes x_wheels x_group).bind fun r271 => some ((eP PyData.str (eO (eT (eT PyData.int)))) (("beside" : Str), r271))) (fun r0 => some r0)
def spo (w : List Int) (g : List (List Int)) : Option Bool := (spl w g).bind fun r272 => (sq r272).bind fun ds273 => (idx ds273 (0 : Int)).bind fun x274 => (gdS x274 (PyData.str ("beside" : Str))).bind fun u275 => some (PyData.eqv x274 (PyData.str ("beside" : Str)))
def decP : D → Option (Option (List (List Int)))
  | .tuple [.str s, x] => if s = "beside" then (toTW x).map some else none
  | .tuple [.str s, _, _] => if s = "stuck" then some none else none
  | _ => none
theorem pap_of {d : D} {o : List (List Int)} (h : decP d = some (some o)) : d = .tuple [.str "beside", eT (eT PyData.int) o] := by
  unfold decP at h
  split at h
  · split at h
    · rename_i s x e
      obtain ⟨t, ht, e2⟩ := Option.map_eq_some_iff.mp h
      cases e2
      rw [e, toTW_eq ht]
    · cases h
  · split at h <;> cases h
  · cases h
theorem pap_no {d : D} (h : decP d = some none) : ∃ a b, d = .tuple [.str "stuck", a, b] := by
  unfold decP at h
  split at h
  · split at h
    · obtain ⟨t, ht, e2⟩ := Option.map_eq_some_iff.mp h
      cases e2
    · cases h
  · split at h
    · rename_i s a b e
      exact ⟨a, b, by rw [e]⟩
    · cases h
  · cases h
end
section
theorem gdS_bb : gdS (PyData.str ("beside" : Str)) (PyData.str ("beside" : Str)) = some () := by decide +kernel
theorem gdS_sb : gdS (PyData.str ("stuck" : Str)) (PyData.str ("beside" : Str)) = some () := by decide +kernel
theorem gdS_ss : gdS (PyData.str ("stuck" : Str)) (PyData.str ("stuck" : Str)) = some () := by decide +kernel
theorem eqv_bb : PyData.eqv (PyData.str ("beside" : Str)) (PyData.str ("beside" : Str)) = true := by decide +kernel
theorem eqv_sb : PyData.eqv (PyData.str ("stuck" : Str)) (PyData.str ("beside" : Str)) = false := by decide +kernel
theorem eqv_ss : PyData.eqv (PyData.str ("stuck" : Str)) (PyData.str ("stuck" : Str)) = true := by decide +kernel
theorem oand_t {q : Option Bool} : oand true q = q := rfl
theorem oor_f {q : Option Bool} : oor false q = q := rfl
theorem isA_tup (ds : List D) : isA "tuple" (PyData.tuple ds) = true := by simp [isA, dty]
theorem isA_str (s : Str) : isA "str" (PyData.str s) = true := by simp [isA, dty]
theorem named_b (x : D) : m_is_named (PyData.tuple [PyData.str ("beside" : Str), x]) ("beside" : Str) (2 : Int) = some true := by
  unfold m_is_named
  refine bind_of true ?_ rfl
  rw [isA_tup, oand_t]
  refine bind_of [PyData.str ("beside" : Str), x] rfl (bind_of true ?_ rfl)
  rw [decide_eq_true (by rfl), oand_t]
  refine bind_of [PyData.str ("beside" : Str), x] rfl (bind_of (PyData.str ("beside" : Str)) rfl (bind_of true ?_ rfl))
  rw [isA_str, oand_t]
  refine bind_of [PyData.str ("beside" : Str), x] rfl (bind_of (PyData.str ("beside" : Str)) rfl (bind_of () gdS_bb ?_))
  rw [eqv_bb]
theorem spo_b {w : List Int} {g : List (List Int)} {x : D} (h : spl w g = some (PyData.tuple [PyData.str ("beside" : Str), x])) : spo w g = some true := by
  unfold spo
  refine bind_of _ h (bind_of [PyData.str ("beside" : Str), x] rfl (bind_of (PyData.str ("beside" : Str)) rfl (bind_of () gdS_bb ?_)))
  rw [eqv_bb]
theorem spo_s {w : List Int} {g : List (List Int)} {x y : D} (h : spl w g = some (PyData.tuple [PyData.str ("stuck" : Str), x, y])) : spo w g = some false := by
  unfold spo
  refine bind_of _ h (bind_of [PyData.str ("stuck" : Str), x, y] rfl (bind_of (PyData.str ("stuck" : Str)) rfl (bind_of () gdS_sb ?_)))
  rw [eqv_sb]
end
/-! ### k10: the finite part -/
section
def S0 : List Str := [("beside" : Str), ("stuck" : Str)]
def S1 : List Str := ("x" : Str) :: S0.flatMap fun s => [s, s ++ ("a" : Str), cutS s (some (1 : Int)) none, s ++ ("A" : Str), s ++ (" " : Str), cutS s none (some (1 : Int))]
def chkLit (w : List Int) : Bool := full w (litOf w)
def chkW (w : List Int) : Bool := decide (m__law_all w = some (alls w)) && decide (m_elements_of w = some (alls w)) && decide (w.length ≤ 20) && decide ((alls w).length ≤ 60) && decide (alls w ≠ []) && onS (m_exponent_of w) (fun e => decide (0 < e ∧ e ≤ 64) && w.all fun n => decide (0 < n ∧ n ≤ 40 ∧ e % n = 0)) && (alls w).all (fun x => okR (eT PyData.int x) && SeqAt.shaped (PyData.str ((eT PyData.int) x).shown)) && SeqAt.shaped (eL PyData.str ((alls w).map fun x => ((eT PyData.int) x).shown))
def chkS (w : List Int) : Bool := chS (litOf w) && keyOk ((litOf w).map (eT (eT PyData.int))) && decide ((litOf w).Nodup) && decide ((litOf w).length ≤ 100)
def decQ : D → Option (List (List Int) ⊕ (Int × List Int))
  | .tuple [.str s, x] => if s = "beside" then (toTW x).map .inl else none
  | .tuple [.str s, .int m, x] => if s = "stuck" then (toW x).map fun y => .inr (m, y) else none
  | _ => none
def smB (d : D) : Bool := cls 40 S1 d && decide (wt d ≤ 100000) && decide (dp d ≤ 30) && decide (ml d ≤ 60)
def btB (d : D) : Bool := cls 38 S0 d && decide (wt d ≤ 2000) && decide (dp d ≤ 6) && decide (ml d ≤ 24)
def rtB (w : List Int) (g : List (List Int)) : List (List Int) ⊕ (Int × List Int) → Bool
  | .inl o => isG w o && shN o g && decide (o.length * g.length = (alls w).length)
  | .inr (m, x) => decide (1 ≤ m) && decide (x ∈ g) && !decide (x ∈ g.map (tm w m)) && decide (x ∈ (alls w).map (tm w m))
def triedF (ev g : List (List Int)) (pap : D) : Option (List D) := (sq pap).bind fun ds333 => (toTD pap).bind fun ds334 => (toTD pap).bind fun ds335 => (szOk (ds335.length + [PyData.int (0 : Int)].length)).bind fun u336 => (idx ev (0 : Int)).bind fun x337 => (idx ev (0 : Int)).bind fun x338 => (idx g (-(1 : Int))).bind fun x339 => (some [pap, (eL eD) ds333, (eT eD) (cut ds334 none (some (1 : Int))), (eT eD) (ds335 ++ [PyData.int (0 : Int)]), (eP PyData.str (eT (eT PyData.int))) (("beside" : Str), [x337]), (eP PyData.str (eT (eT PyData.int))) (("beside" : Str), ev), (eQ PyData.str PyData.int (eT PyData.int)) (("stuck" : Str), (2 : Int), x338), (eQ PyData.str PyData.int (eT PyData.int)) (("stuck" : Str), (2 : Int), x339)]).bind fun v340 => (idx g (-(1 : Int))).bind fun x341 => (szOk (v340.length + [(eQ PyData.str PyData.bool (eT PyData.int)) (("stuck" : Str), true, x341), PyData.none].length)).bind fun u342 => some (v340 ++ [(eQ PyData.str PyData.bool (eT PyData.int)) (("stuck" : Str), true, x341), PyData.none])
def chkG (w : List Int) (g : List (List Int)) : Bool := onS (spl w g) fun pap => btB pap && onS (triedF (alls w) g pap) (fun l => l.all smB && decide (l.length ≤ 20)) && onS (decQ pap) (rtB w g)
def stkF (w : List Int) (g : List (List Int)) : Option (List Int) := (bif (!decide (w = [])) then (idx w (-(1 : Int))).bind fun x404 => some x404 else some (1 : Int)).bind fun v405 => (rng (1 : Int) (v405 + (1 : Int))).bind fun ks406 => (lcF (fun (x407 : Int) => (m_stuck_at w g x407).bind fun r408 => bif (!isNone ((eO (eT PyData.int)) r408)) then some (some x407) else some none) ks406).bind fun ys409 => some ys409
def chkH (w : List Int) (g : List (List Int)) : Bool := onS (spl w g) fun pap => onS (stkF w g) fun ys => onS (bes w g) fun bg => decide (isNone ((eO (eT (eT PyData.int))) bg) = (!decide (ys = []))) && onS (decQ pap) fun q => match q with
  | .inl o => decide (ys = []) && (alls w).all fun x => onS (m_parts_of w g o x) fun p => decide (p.1 ∈ g) && decide (p.2 ∈ o) && decide (m__law_sum w p.1 p.2 = some x) && onS (lcF (fun (x435 : (List Int)) => (m__law_times w ((0 : Int) - (1 : Int)) x435).bind fun r436 => (m__law_sum w x r436).bind fun r437 => bif (decide (r437 ∈ o)) then some (some x435) else some none) g) fun zs => decide (zs.length = 1)
  | .inr _ => onS (idx ys (0 : Int)) fun m => onS (m_stuck_at w g m) fun r => match r with
    | none => false
    | some x => smB (eQ PyData.str PyData.int (eT PyData.int) (("stuck" : Str), m, x)) && rtB w g (.inr (m, x))
end
theorem ck_onW_imp {a b : Nat} {p q r : List Int → Bool} (h1 : ck a b (onW p) = true) (h2 : ck a b (onW q) = true) (h : ∀ w, p w = true → q w = true → r w = true) : ck a b (onW r) = true := List.all_eq_true.mpr fun n hn => by
  rw [List.mem_range'_1] at hn
  have e1 := ck_at h1 hn.1 (by omega)
  have e2 := ck_at h2 hn.1 (by omega)
  unfold onW at *
  obtain ⟨ws, e, e1⟩ := onS_of e1
  have e2 := onS_and e2 e
  rw [e]
  show (decide (ws ≠ [] ∧ ws.length ≤ 1000) && ws.all r) = true
  rw [Bool.and_eq_true] at *
  rw [List.all_eq_true] at *
  exact ⟨e1.1, fun w hw => h w (e1.2 w hw) (e2.2 w hw)⟩
theorem all_cut {α : Type} {p : α → Bool} {l : List α} (n k : Nat) (h1 : ((l.drop n).take k).all p = true) (h2 : (l.drop (n + k)).all p = true) : (l.drop n).all p = true := by
  rw [← List.take_append_drop k (l.drop n), List.all_append, h1, List.drop_drop, h2]; rfl

theorem allW_0 : ck 0 12 (onW chkW) = true := by decide +kernel
theorem allW_1 : ck 12 16 (onW chkW) = true := by decide +kernel
theorem allW_2 : ck 16 18 (onW chkW) = true := by decide +kernel
theorem allW_3 : ck 18 20 (onW chkW) = true := by decide +kernel
theorem allW_4 : ck 20 22 (onW chkW) = true := by decide +kernel
theorem allW_5 : ck 22 24 (onW chkW) = true := by decide +kernel
theorem allW : ck 0 24 (onW chkW) = true := ck_join (ck_join (ck_join (ck_join (ck_join allW_0 allW_1) allW_2) allW_3) allW_4) allW_5
theorem allStep_0 : ck 0 8 (onW fun w => (litOf w).all (stepC w (litOf w))) = true := by decide +kernel
theorem allStep_8 : ck 8 12 (onW fun w => (litOf w).all (stepC w (litOf w))) = true := by decide +kernel
theorem allStep_12 : ck 12 15 (onW fun w => (litOf w).all (stepC w (litOf w))) = true := by decide +kernel
theorem allStep_15_p0 : ck 15 16 (onW fun w => (((litOf w).drop 0).take 8).all (stepC w (litOf w))) = true := by decide +kernel
theorem allStep_15_p1 : ck 15 16 (onW fun w => (((litOf w).drop 8).take 8).all (stepC w (litOf w))) = true := by decide +kernel
theorem allStep_15_p2 : ck 15 16 (onW fun w => (((litOf w).drop 16).take 8).all (stepC w (litOf w))) = true := by decide +kernel
theorem allStep_15_p3 : ck 15 16 (onW fun w => (((litOf w).drop 24).take 8).all (stepC w (litOf w))) = true := by decide +kernel
theorem allStep_15_p4 : ck 15 16 (onW fun w => (((litOf w).drop 32).take 8).all (stepC w (litOf w))) = true := by decide +kernel
theorem allStep_15_p5 : ck 15 16 (onW fun w => (((litOf w).drop 40).take 8).all (stepC w (litOf w))) = true := by decide +kernel
theorem allStep_15_p6 : ck 15 16 (onW fun w => (((litOf w).drop 48).take 8).all (stepC w (litOf w))) = true := by decide +kernel
theorem allStep_15_p7 : ck 15 16 (onW fun w => (((litOf w).drop 56).take 8).all (stepC w (litOf w))) = true := by decide +kernel
theorem allStep_15_p8 : ck 15 16 (onW fun w => ((litOf w).drop 64).all (stepC w (litOf w))) = true := by decide +kernel
theorem allStep_15 : ck 15 16 (onW fun w => (litOf w).all (stepC w (litOf w))) = true := by
  have d7 : ck 15 16 (onW fun w => ((litOf w).drop 56).all (stepC w (litOf w))) = true := ck_onW_imp allStep_15_p7 allStep_15_p8 fun w h1 h2 => all_cut 56 8 h1 h2
  have d6 : ck 15 16 (onW fun w => ((litOf w).drop 48).all (stepC w (litOf w))) = true := ck_onW_imp allStep_15_p6 d7 fun w h1 h2 => all_cut 48 8 h1 h2
  have d5 : ck 15 16 (onW fun w => ((litOf w).drop 40).all (stepC w (litOf w))) = true := ck_onW_imp allStep_15_p5 d6 fun w h1 h2 => all_cut 40 8 h1 h2
  have d4 : ck 15 16 (onW fun w => ((litOf w).drop 32).all (stepC w (litOf w))) = true := ck_onW_imp allStep_15_p4 d5 fun w h1 h2 => all_cut 32 8 h1 h2
  have d3 : ck 15 16 (onW fun w => ((litOf w).drop 24).all (stepC w (litOf w))) = true := ck_onW_imp allStep_15_p3 d4 fun w h1 h2 => all_cut 24 8 h1 h2
  have d2 : ck 15 16 (onW fun w => ((litOf w).drop 16).all (stepC w (litOf w))) = true := ck_onW_imp allStep_15_p2 d3 fun w h1 h2 => all_cut 16 8 h1 h2
  have d1 : ck 15 16 (onW fun w => ((litOf w).drop 8).all (stepC w (litOf w))) = true := ck_onW_imp allStep_15_p1 d2 fun w h1 h2 => all_cut 8 8 h1 h2
  exact ck_onW_imp allStep_15_p0 d1 fun w h1 h2 => all_cut 0 8 h1 h2
theorem allStep_16 : ck 16 17 (onW fun w => (litOf w).all (stepC w (litOf w))) = true := by decide +kernel
theorem allStep_17_p0 : ck 17 18 (onW fun w => (((litOf w).drop 0).take 8).all (stepC w (litOf w))) = true := by decide +kernel
theorem allStep_17_p1 : ck 17 18 (onW fun w => ((litOf w).drop 8).all (stepC w (litOf w))) = true := by decide +kernel
theorem allStep_17 : ck 17 18 (onW fun w => (litOf w).all (stepC w (litOf w))) = true := by
  exact ck_onW_imp allStep_17_p0 allStep_17_p1 fun w h1 h2 => all_cut 0 8 h1 h2
theorem allStep_18 : ck 18 19 (onW fun w => (litOf w).all (stepC w (litOf w))) = true := by decide +kernel
theorem allStep_19_p0 : ck 19 20 (onW fun w => (((litOf w).drop 0).take 8).all (stepC w (litOf w))) = true := by decide +kernel
theorem allStep_19_p1 : ck 19 20 (onW fun w => ((litOf w).drop 8).all (stepC w (litOf w))) = true := by decide +kernel
theorem allStep_19 : ck 19 20 (onW fun w => (litOf w).all (stepC w (litOf w))) = true := by
  exact ck_onW_imp allStep_19_p0 allStep_19_p1 fun w h1 h2 => all_cut 0 8 h1 h2
theorem allStep_20 : ck 20 21 (onW fun w => (litOf w).all (stepC w (litOf w))) = true := by decide +kernel
theorem allStep_21 : ck 21 22 (onW fun w => (litOf w).all (stepC w (litOf w))) = true := by decide +kernel
theorem allStep_22 : ck 22 23 (onW fun w => (litOf w).all (stepC w (litOf w))) = true := by decide +kernel
theorem allStep_23_p0 : ck 23 24 (onW fun w => (((litOf w).drop 0).take 8).all (stepC w (litOf w))) = true := by decide +kernel
theorem allStep_23_p1 : ck 23 24 (onW fun w => (((litOf w).drop 8).take 8).all (stepC w (litOf w))) = true := by decide +kernel
theorem allStep_23_p2 : ck 23 24 (onW fun w => (((litOf w).drop 16).take 8).all (stepC w (litOf w))) = true := by decide +kernel
theorem allStep_23_p3 : ck 23 24 (onW fun w => ((litOf w).drop 24).all (stepC w (litOf w))) = true := by decide +kernel
theorem allStep_23 : ck 23 24 (onW fun w => (litOf w).all (stepC w (litOf w))) = true := by
  have d2 : ck 23 24 (onW fun w => ((litOf w).drop 16).all (stepC w (litOf w))) = true := ck_onW_imp allStep_23_p2 allStep_23_p3 fun w h1 h2 => all_cut 16 8 h1 h2
  have d1 : ck 23 24 (onW fun w => ((litOf w).drop 8).all (stepC w (litOf w))) = true := ck_onW_imp allStep_23_p1 d2 fun w h1 h2 => all_cut 8 8 h1 h2
  exact ck_onW_imp allStep_23_p0 d1 fun w h1 h2 => all_cut 0 8 h1 h2
theorem allStep : ck 0 24 (onW fun w => (litOf w).all (stepC w (litOf w))) = true := ck_join (ck_join (ck_join (ck_join (ck_join (ck_join (ck_join (ck_join (ck_join (ck_join (ck_join allStep_0 allStep_8) allStep_12) allStep_15) allStep_16) allStep_17) allStep_18) allStep_19) allStep_20) allStep_21) allStep_22) allStep_23
theorem allIs_0 : ck 0 8 (onW fun w => decide ([zr w] ∈ litOf w) && (litOf w).all (isG w)) = true := by decide +kernel
theorem allIs_1 : ck 8 12 (onW fun w => decide ([zr w] ∈ litOf w) && (litOf w).all (isG w)) = true := by decide +kernel
theorem allIs_2 : ck 12 15 (onW fun w => decide ([zr w] ∈ litOf w) && (litOf w).all (isG w)) = true := by decide +kernel
theorem allIs_3 : ck 15 16 (onW fun w => decide ([zr w] ∈ litOf w) && (litOf w).all (isG w)) = true := by decide +kernel
theorem allIs_4 : ck 16 18 (onW fun w => decide ([zr w] ∈ litOf w) && (litOf w).all (isG w)) = true := by decide +kernel
theorem allIs_5 : ck 18 20 (onW fun w => decide ([zr w] ∈ litOf w) && (litOf w).all (isG w)) = true := by decide +kernel
theorem allIs_6 : ck 20 22 (onW fun w => decide ([zr w] ∈ litOf w) && (litOf w).all (isG w)) = true := by decide +kernel
theorem allIs_7 : ck 22 23 (onW fun w => decide ([zr w] ∈ litOf w) && (litOf w).all (isG w)) = true := by decide +kernel
theorem allIs_8 : ck 23 24 (onW fun w => decide ([zr w] ∈ litOf w) && (litOf w).all (isG w)) = true := by decide +kernel
theorem allIs : ck 0 24 (onW fun w => decide ([zr w] ∈ litOf w) && (litOf w).all (isG w)) = true := ck_join (ck_join (ck_join (ck_join (ck_join (ck_join (ck_join (ck_join allIs_0 allIs_1) allIs_2) allIs_3) allIs_4) allIs_5) allIs_6) allIs_7) allIs_8
theorem allLit : ck 0 24 (onW chkLit) = true := ck_onW_imp allIs allStep fun w h1 h2 => by
  unfold chkLit full
  rw [h1, h2]; rfl

theorem allS_0 : ck 0 12 (onW chkS) = true := by decide +kernel
theorem allS_1 : ck 12 15 (onW chkS) = true := by decide +kernel
theorem allS_2 : ck 15 16 (onW chkS) = true := by decide +kernel
theorem allS_3 : ck 16 20 (onW chkS) = true := by decide +kernel
theorem allS_4 : ck 20 24 (onW chkS) = true := by decide +kernel
theorem allS : ck 0 24 (onW chkS) = true := ck_join (ck_join (ck_join (ck_join allS_0 allS_1) allS_2) allS_3) allS_4
theorem allG_0 : ck 0 8 (onW fun w => (litOf w).all (chkG w)) = true := by decide +kernel
theorem allG_8 : ck 8 12 (onW fun w => (litOf w).all (chkG w)) = true := by decide +kernel
theorem allG_12 : ck 12 15 (onW fun w => (litOf w).all (chkG w)) = true := by decide +kernel
theorem allG_15_p0 : ck 15 16 (onW fun w => (((litOf w).drop 0).take 8).all (chkG w)) = true := by decide +kernel
theorem allG_15_p1 : ck 15 16 (onW fun w => (((litOf w).drop 8).take 8).all (chkG w)) = true := by decide +kernel
theorem allG_15_p2 : ck 15 16 (onW fun w => (((litOf w).drop 16).take 8).all (chkG w)) = true := by decide +kernel
theorem allG_15_p3 : ck 15 16 (onW fun w => (((litOf w).drop 24).take 8).all (chkG w)) = true := by decide +kernel
theorem allG_15_p4 : ck 15 16 (onW fun w => (((litOf w).drop 32).take 8).all (chkG w)) = true := by decide +kernel
theorem allG_15_p5 : ck 15 16 (onW fun w => (((litOf w).drop 40).take 8).all (chkG w)) = true := by decide +kernel
theorem allG_15_p6 : ck 15 16 (onW fun w => (((litOf w).drop 48).take 8).all (chkG w)) = true := by decide +kernel
theorem allG_15_p7 : ck 15 16 (onW fun w => (((litOf w).drop 56).take 8).all (chkG w)) = true := by decide +kernel
theorem allG_15_p8 : ck 15 16 (onW fun w => ((litOf w).drop 64).all (chkG w)) = true := by decide +kernel
theorem allG_15 : ck 15 16 (onW fun w => (litOf w).all (chkG w)) = true := by
  have d7 : ck 15 16 (onW fun w => ((litOf w).drop 56).all (chkG w)) = true := ck_onW_imp allG_15_p7 allG_15_p8 fun w h1 h2 => all_cut 56 8 h1 h2
  have d6 : ck 15 16 (onW fun w => ((litOf w).drop 48).all (chkG w)) = true := ck_onW_imp allG_15_p6 d7 fun w h1 h2 => all_cut 48 8 h1 h2
  have d5 : ck 15 16 (onW fun w => ((litOf w).drop 40).all (chkG w)) = true := ck_onW_imp allG_15_p5 d6 fun w h1 h2 => all_cut 40 8 h1 h2
  have d4 : ck 15 16 (onW fun w => ((litOf w).drop 32).all (chkG w)) = true := ck_onW_imp allG_15_p4 d5 fun w h1 h2 => all_cut 32 8 h1 h2
  have d3 : ck 15 16 (onW fun w => ((litOf w).drop 24).all (chkG w)) = true := ck_onW_imp allG_15_p3 d4 fun w h1 h2 => all_cut 24 8 h1 h2
  have d2 : ck 15 16 (onW fun w => ((litOf w).drop 16).all (chkG w)) = true := ck_onW_imp allG_15_p2 d3 fun w h1 h2 => all_cut 16 8 h1 h2
  have d1 : ck 15 16 (onW fun w => ((litOf w).drop 8).all (chkG w)) = true := ck_onW_imp allG_15_p1 d2 fun w h1 h2 => all_cut 8 8 h1 h2
  exact ck_onW_imp allG_15_p0 d1 fun w h1 h2 => all_cut 0 8 h1 h2
theorem allG_16 : ck 16 17 (onW fun w => (litOf w).all (chkG w)) = true := by decide +kernel
theorem allG_17_p0 : ck 17 18 (onW fun w => (((litOf w).drop 0).take 8).all (chkG w)) = true := by decide +kernel
theorem allG_17_p1 : ck 17 18 (onW fun w => ((litOf w).drop 8).all (chkG w)) = true := by decide +kernel
theorem allG_17 : ck 17 18 (onW fun w => (litOf w).all (chkG w)) = true := by
  exact ck_onW_imp allG_17_p0 allG_17_p1 fun w h1 h2 => all_cut 0 8 h1 h2
theorem allG_18 : ck 18 19 (onW fun w => (litOf w).all (chkG w)) = true := by decide +kernel
theorem allG_19_p0 : ck 19 20 (onW fun w => (((litOf w).drop 0).take 8).all (chkG w)) = true := by decide +kernel
theorem allG_19_p1 : ck 19 20 (onW fun w => ((litOf w).drop 8).all (chkG w)) = true := by decide +kernel
theorem allG_19 : ck 19 20 (onW fun w => (litOf w).all (chkG w)) = true := by
  exact ck_onW_imp allG_19_p0 allG_19_p1 fun w h1 h2 => all_cut 0 8 h1 h2
theorem allG_20 : ck 20 21 (onW fun w => (litOf w).all (chkG w)) = true := by decide +kernel
theorem allG_21 : ck 21 22 (onW fun w => (litOf w).all (chkG w)) = true := by decide +kernel
theorem allG_22 : ck 22 23 (onW fun w => (litOf w).all (chkG w)) = true := by decide +kernel
theorem allG_23_p0 : ck 23 24 (onW fun w => (((litOf w).drop 0).take 8).all (chkG w)) = true := by decide +kernel
theorem allG_23_p1 : ck 23 24 (onW fun w => (((litOf w).drop 8).take 8).all (chkG w)) = true := by decide +kernel
theorem allG_23_p2 : ck 23 24 (onW fun w => (((litOf w).drop 16).take 8).all (chkG w)) = true := by decide +kernel
theorem allG_23_p3 : ck 23 24 (onW fun w => ((litOf w).drop 24).all (chkG w)) = true := by decide +kernel
theorem allG_23 : ck 23 24 (onW fun w => (litOf w).all (chkG w)) = true := by
  have d2 : ck 23 24 (onW fun w => ((litOf w).drop 16).all (chkG w)) = true := ck_onW_imp allG_23_p2 allG_23_p3 fun w h1 h2 => all_cut 16 8 h1 h2
  have d1 : ck 23 24 (onW fun w => ((litOf w).drop 8).all (chkG w)) = true := ck_onW_imp allG_23_p1 d2 fun w h1 h2 => all_cut 8 8 h1 h2
  exact ck_onW_imp allG_23_p0 d1 fun w h1 h2 => all_cut 0 8 h1 h2
theorem allG : ck 0 24 (onW fun w => (litOf w).all (chkG w)) = true := ck_join (ck_join (ck_join (ck_join (ck_join (ck_join (ck_join (ck_join (ck_join (ck_join (ck_join allG_0 allG_8) allG_12) allG_15) allG_16) allG_17) allG_18) allG_19) allG_20) allG_21) allG_22) allG_23

theorem allH_0 : ck 0 8 (onW fun w => (litOf w).all (chkH w)) = true := by decide +kernel
theorem allH_8 : ck 8 12 (onW fun w => (litOf w).all (chkH w)) = true := by decide +kernel
theorem allH_12 : ck 12 15 (onW fun w => (litOf w).all (chkH w)) = true := by decide +kernel
theorem allH_15_p0 : ck 15 16 (onW fun w => (((litOf w).drop 0).take 8).all (chkH w)) = true := by decide +kernel
theorem allH_15_p1 : ck 15 16 (onW fun w => (((litOf w).drop 8).take 8).all (chkH w)) = true := by decide +kernel
theorem allH_15_p2 : ck 15 16 (onW fun w => (((litOf w).drop 16).take 8).all (chkH w)) = true := by decide +kernel
theorem allH_15_p3 : ck 15 16 (onW fun w => (((litOf w).drop 24).take 8).all (chkH w)) = true := by decide +kernel
theorem allH_15_p4 : ck 15 16 (onW fun w => (((litOf w).drop 32).take 8).all (chkH w)) = true := by decide +kernel
theorem allH_15_p5 : ck 15 16 (onW fun w => (((litOf w).drop 40).take 8).all (chkH w)) = true := by decide +kernel
theorem allH_15_p6 : ck 15 16 (onW fun w => (((litOf w).drop 48).take 8).all (chkH w)) = true := by decide +kernel
theorem allH_15_p7 : ck 15 16 (onW fun w => (((litOf w).drop 56).take 8).all (chkH w)) = true := by decide +kernel
theorem allH_15_p8 : ck 15 16 (onW fun w => ((litOf w).drop 64).all (chkH w)) = true := by decide +kernel
theorem allH_15 : ck 15 16 (onW fun w => (litOf w).all (chkH w)) = true := by
  have d7 : ck 15 16 (onW fun w => ((litOf w).drop 56).all (chkH w)) = true := ck_onW_imp allH_15_p7 allH_15_p8 fun w h1 h2 => all_cut 56 8 h1 h2
  have d6 : ck 15 16 (onW fun w => ((litOf w).drop 48).all (chkH w)) = true := ck_onW_imp allH_15_p6 d7 fun w h1 h2 => all_cut 48 8 h1 h2
  have d5 : ck 15 16 (onW fun w => ((litOf w).drop 40).all (chkH w)) = true := ck_onW_imp allH_15_p5 d6 fun w h1 h2 => all_cut 40 8 h1 h2
  have d4 : ck 15 16 (onW fun w => ((litOf w).drop 32).all (chkH w)) = true := ck_onW_imp allH_15_p4 d5 fun w h1 h2 => all_cut 32 8 h1 h2
  have d3 : ck 15 16 (onW fun w => ((litOf w).drop 24).all (chkH w)) = true := ck_onW_imp allH_15_p3 d4 fun w h1 h2 => all_cut 24 8 h1 h2
  have d2 : ck 15 16 (onW fun w => ((litOf w).drop 16).all (chkH w)) = true := ck_onW_imp allH_15_p2 d3 fun w h1 h2 => all_cut 16 8 h1 h2
  have d1 : ck 15 16 (onW fun w => ((litOf w).drop 8).all (chkH w)) = true := ck_onW_imp allH_15_p1 d2 fun w h1 h2 => all_cut 8 8 h1 h2
  exact ck_onW_imp allH_15_p0 d1 fun w h1 h2 => all_cut 0 8 h1 h2
theorem allH_16 : ck 16 17 (onW fun w => (litOf w).all (chkH w)) = true := by decide +kernel
theorem allH_17_p0 : ck 17 18 (onW fun w => (((litOf w).drop 0).take 8).all (chkH w)) = true := by decide +kernel
theorem allH_17_p1 : ck 17 18 (onW fun w => ((litOf w).drop 8).all (chkH w)) = true := by decide +kernel
theorem allH_17 : ck 17 18 (onW fun w => (litOf w).all (chkH w)) = true := by
  exact ck_onW_imp allH_17_p0 allH_17_p1 fun w h1 h2 => all_cut 0 8 h1 h2
theorem allH_18 : ck 18 19 (onW fun w => (litOf w).all (chkH w)) = true := by decide +kernel
theorem allH_19_p0 : ck 19 20 (onW fun w => (((litOf w).drop 0).take 8).all (chkH w)) = true := by decide +kernel
theorem allH_19_p1 : ck 19 20 (onW fun w => ((litOf w).drop 8).all (chkH w)) = true := by decide +kernel
theorem allH_19 : ck 19 20 (onW fun w => (litOf w).all (chkH w)) = true := by
  exact ck_onW_imp allH_19_p0 allH_19_p1 fun w h1 h2 => all_cut 0 8 h1 h2
theorem allH_20 : ck 20 21 (onW fun w => (litOf w).all (chkH w)) = true := by decide +kernel
theorem allH_21 : ck 21 22 (onW fun w => (litOf w).all (chkH w)) = true := by decide +kernel
theorem allH_22 : ck 22 23 (onW fun w => (litOf w).all (chkH w)) = true := by decide +kernel
theorem allH_23_p0 : ck 23 24 (onW fun w => (((litOf w).drop 0).take 8).all (chkH w)) = true := by decide +kernel
theorem allH_23_p1 : ck 23 24 (onW fun w => (((litOf w).drop 8).take 8).all (chkH w)) = true := by decide +kernel
theorem allH_23_p2 : ck 23 24 (onW fun w => (((litOf w).drop 16).take 8).all (chkH w)) = true := by decide +kernel
theorem allH_23_p3 : ck 23 24 (onW fun w => ((litOf w).drop 24).all (chkH w)) = true := by decide +kernel
theorem allH_23 : ck 23 24 (onW fun w => (litOf w).all (chkH w)) = true := by
  have d2 : ck 23 24 (onW fun w => ((litOf w).drop 16).all (chkH w)) = true := ck_onW_imp allH_23_p2 allH_23_p3 fun w h1 h2 => all_cut 16 8 h1 h2
  have d1 : ck 23 24 (onW fun w => ((litOf w).drop 8).all (chkH w)) = true := ck_onW_imp allH_23_p1 d2 fun w h1 h2 => all_cut 8 8 h1 h2
  exact ck_onW_imp allH_23_p0 d1 fun w h1 h2 => all_cut 0 8 h1 h2
theorem allH : ck 0 24 (onW fun w => (litOf w).all (chkH w)) = true := ck_join (ck_join (ck_join (ck_join (ck_join (ck_join (ck_join (ck_join (ck_join (ck_join (ck_join allH_0 allH_8) allH_12) allH_15) allH_16) allH_17) allH_18) allH_19) allH_20) allH_21) allH_22) allH_23


section
theorem S1_ok : (S1.all fun s => SeqAt.shaped (PyData.str s) && decide ((PyData.shown (.str s)).length ≤ 40) && ((PyData.shown (.str s)).cps.toList.all fun c => decide (c < 0x110000)) && (match cp (PyData.shown (.str s)) with
  | c :: _ => !dig c && decide (c ≠ 41)
  | [] => false)) = true := by decide +kernel
theorem I_ok : ((List.range 81).all fun n => decide ((PyData.shown (.int ((n : Int) - 40))).length ≤ 40) && ((PyData.shown (.int ((n : Int) - 40))).cps.toList.all fun c => decide (c < 0x110000)) && decide (cp (PyData.shown (.int ((n : Int) - 40))) ≠ []) && (cp (PyData.shown (.int ((n : Int) - 40)))).all dig) = true := by decide +kernel
theorem I_inj : ((List.range 81).all fun n => (List.range 81).all fun k => decide (n = k) || !decide (cp (PyData.shown (.int ((n : Int) - 40))) = cp (PyData.shown (.int ((k : Int) - 40))))) = true := by decide +kernel
theorem at_int {i : Int} (h : -40 ≤ i ∧ i ≤ 40) : ∃ n : Nat, n < 81 ∧ i = (n : Int) - 40 := ⟨(i + 40).toNat, by omega, by omega⟩
theorem TX : TxI 40 S1 := by
  have s := List.all_eq_true.mp S1_ok
  have i := List.all_eq_true.mp I_ok
  have sp : ∀ t ∈ S1, (SeqAt.shaped (PyData.str t) = true ∧ (PyData.shown (.str t)).length ≤ 40) ∧ ((PyData.shown (.str t)).cps.toList.all fun c => decide (c < 0x110000)) = true ∧ ∃ c r, cp (PyData.shown (.str t)) = c :: r ∧ dig c = false ∧ c ≠ 41 := fun t ht => by
    have q := s t ht
    simp only [Bool.and_eq_true] at q
    obtain ⟨⟨⟨q1, q2⟩, q3⟩, q4⟩ := q
    refine ⟨⟨q1, of_decide_eq_true q2⟩, q3, ?_⟩
    cases e : cp (PyData.shown (.str t)) with
    | nil => rw [e] at q4; cases q4
    | cons c r =>
      rw [e] at q4
      simp only [Bool.and_eq_true, Bool.not_eq_true', decide_eq_true_eq] at q4
      exact ⟨c, r, rfl, q4.1, q4.2⟩
  have ip : ∀ j : Int, -40 ≤ j → j ≤ 40 → (PyData.shown (.int j)).length ≤ 40 ∧ ((PyData.shown (.int j)).cps.toList.all fun c => decide (c < 0x110000)) = true ∧ cp (PyData.shown (.int j)) ≠ [] ∧ (cp (PyData.shown (.int j))).all dig = true := fun j h1 h2 => by
    obtain ⟨n, hn, rfl⟩ := at_int ⟨h1, h2⟩
    have q := i n (List.mem_range.mpr hn)
    rw [Bool.and_eq_true, Bool.and_eq_true, Bool.and_eq_true] at q
    exact ⟨of_decide_eq_true q.1.1.1, q.1.1.2, of_decide_eq_true q.1.2, q.2⟩
  have inj : ∀ a b : Int, -40 ≤ a → a ≤ 40 → -40 ≤ b → b ≤ 40 → cp (PyData.shown (.int a)) = cp (PyData.shown (.int b)) → a = b := fun a b a1 a2 b1 b2 h => by
    obtain ⟨n, hn, rfl⟩ := at_int ⟨a1, a2⟩
    obtain ⟨k, hk, rfl⟩ := at_int ⟨b1, b2⟩
    have q := List.all_eq_true.mp (List.all_eq_true.mp I_inj n (List.mem_range.mpr hn)) k (List.mem_range.mpr hk)
    rw [decide_eq_true h] at q
    have : n = k := by simpa using q
    rw [this]
  exact ⟨⟨fun t ht => (sp t ht).1.1, fun t ht => (sp t ht).1.2, fun t ht => (sp t ht).2.1, by decide, fun j a b => (ip j a b).1, fun j a b => (ip j a b).2.1⟩, fun j a b => (ip j a b).2.2, inj, fun t ht => (sp t ht).2.2⟩
theorem BSok : BS S0 S1 := by
  refine ⟨fun s hs => ?_, by decide +kernel, by decide +kernel⟩
  have : (S0.all fun s => decide (s ∈ S1) && decide (s ++ ("a" : Str) ∈ S1) && decide (cutS s (some (1 : Int)) none ∈ S1) && decide (s ++ ("A" : Str) ∈ S1) && decide (s ++ (" " : Str) ∈ S1) && decide (cutS s none (some (1 : Int)) ∈ S1)) = true := by decide +kernel
  have q := List.all_eq_true.mp this s hs
  simp only [Bool.and_eq_true, decide_eq_true_eq] at q
  obtain ⟨⟨⟨⟨⟨a, b⟩, c⟩, d⟩, e⟩, f⟩ := q
  exact ⟨a, b, c, d, e, f⟩
theorem sm_of {d : D} (h : smB d = true) : Sm 40 S1 d := by
  unfold smB at h
  simp only [Bool.and_eq_true, decide_eq_true_eq] at h
  exact ⟨h.1.1.1, h.1.1.2, h.1.2, h.2⟩
structure Fw (w : List Int) (e : Int) : Prop where
  W : WF w e
  F : Few w 60
  all : m__law_all w = some (alls w)
  X : Txt w (alls w)
  ne : alls w ≠ []
  l60 : (alls w).length ≤ 60
  n40 : ∀ n ∈ w, n ≤ 40
  G : m_groups_within w = some (litOf w)
  full : full w (litOf w) = true
theorem fw_of {w : List Int} (hw : isW 24 w) : ∃ e, Fw w e := by
  have h := isW_at hw allW
  have hl := isW_at hw allLit
  have hs := isW_at hw allS
  unfold chkW at h
  unfold chkLit at hl
  unfold chkS at hs
  simp only [Bool.and_eq_true, decide_eq_true_eq, List.all_eq_true] at h hs
  obtain ⟨⟨⟨⟨⟨⟨⟨h1, h2⟩, h3⟩, h4⟩, h5⟩, h6⟩, h7⟩, h8⟩ := h
  obtain ⟨⟨⟨s1, s2⟩, s3⟩, s4⟩ := hs
  obtain ⟨e, he, h6⟩ := onS_of h6
  simp only [Bool.and_eq_true, decide_eq_true_eq, List.all_eq_true] at h6
  obtain ⟨g2, g3⟩ := h6
  have pos : ∀ n ∈ w, (0 : Int) < n := fun n hn => (g3 n hn).1
  have F : Few w 60 := few_of (by omega) (by decide) h4 pos
  have hl' := hl
  unfold full at hl'
  simp only [Bool.and_eq_true, List.all_eq_true] at hl'
  refine ⟨e, ⟨h3, g2.1, g2.2, he, fun k hk => ?_⟩, F, h1, ⟨h2, fun a => mem_alls, by omega, fun x hx => (h7 x hx).1, fun x hx => (h7 x hx).2, h8⟩, h5, h4, fun n hn => (g3 n hn).2.1, groups_eq F h2 (fun g G => full_of hl G) (fun g hg => isG_of (hl'.1.2 g hg)) (by omega) s3 s1 s2, hl⟩
  have hm : T.gt w k ∈ w := by
    unfold T.gt
    rw [List.getD_eq_getElem?_getD, List.getElem?_eq_getElem hk]
    exact List.getElem_mem hk
  have := g3 _ hm
  omega
variable {w : List Int} {e : Int}
theorem need_eq (H : Fw w e) {g : List (List Int)} (G : Grp w g) : m_need_within w g = some () := by
  unfold m_need_within
  exact bind_of true (within_spec H.F (by decide) H.X G) rfl
theorem beside_eq (H : Fw w e) {g : List (List Int)} : m_beside_group w g = bes w g := by
  unfold m_beside_group bes
  rw [H.G]
theorem split_eq (H : Fw w e) {g : List (List Int)} (G : Grp w g) : m_split_paper w g = spl w g := by
  unfold m_split_paper spl
  rw [need_eq H G, beside_eq H]
  rfl
theorem off_eq (H : Fw w e) {g : List (List Int)} (G : Grp w g) : m_splits_off w g = spo w g := by
  unfold m_splits_off spo
  rw [split_eq H G]
theorem ev_of (H : Fw w e) {g : List (List Int)} (G : Grp w g) : Ev 40 S1 w e g := ⟨TX, by decide, H.n40, H.F, H.X, H.W, H.all, H.l60, G, TX.s1 _ (by decide +kernel), TX.s1 _ (by decide +kernel)⟩
theorem judge (H : Fw w e) {g : List (List Int)} (G : Grp w g) {d : D} (hd : Sm 40 S1 d) : ∃ b, m_check_split w g d = some b ∧ m__law_right w g d = some b ∧ (b = true ↔ Rt w g d) := by
  obtain ⟨b, h1, h2⟩ := check_any (ev_of H G) (need_eq H G) hd
  obtain ⟨b', h3, h4⟩ := right_any (ev_of H G) hd
  have : b = b' := by
    rw [Bool.eq_iff_iff, h2, h4]
  subst this
  exact ⟨b, h1, h3, h2⟩
theorem bent_loop {pap : D} (hb : btB pap = true) : ∀ (xs : List Int) (k : Nat) (p : Pool) (l : List D), PW k p → k + 40 * xs.length < 2 ^ 59 → l.length + xs.length ≤ 100 → (∀ d ∈ l, Sm 40 S1 d) →
    ∃ p' l', forF (fun (x346 : Int) (s345 : Pool × (List D)) => (m__law_bent 8 s345.1 pap).bind fun r390 => (szOk (s345.2.length + 1)).bind fun u391 => some (r390.2, (s345.2 ++ [r390.1]))) xs (p, l) = some (p', l') ∧ PW (k + 40 * xs.length) p' ∧ (∀ d ∈ l', Sm 40 S1 d)
  | [], k, p, l, hp, _, _, hl => ⟨p, l, rfl, hp, hl⟩
  | x :: xs, k, p, l, hp, hk, hlen, hl => by
    have b59 : (2 : Nat) ^ 59 = 576460752303423488 := rfl
    have b60 : (2 : Nat) ^ 60 = 1152921504606846976 := rfl
    rw [List.length_cons] at hk hlen
    have hb' := hb
    unfold btB at hb'
    simp only [Bool.and_eq_true, decide_eq_true_eq] at hb'
    obtain ⟨⟨⟨c1, c2⟩, c3⟩, c4⟩ := hb'
    obtain ⟨d, p1, e1, D1, h1⟩ := bent_ok (B := 38) (B' := 40) (by decide) (by decide) BSok (W := 2000) (L := 24) (by decide) (by decide) 8 pap hp (by omega) c1 c2 (by omega) c4
    have sd : Sm 40 S1 d := D1.sm (by decide) (by omega) (by decide)
    obtain ⟨p', l', e2, h2, h3⟩ := bent_loop hb xs (k + 40) p1 (l ++ [d]) (PW.mono h1 (by omega)) (by omega) (by rw [List.length_append, List.length_singleton]; omega) fun y hy => by
      rcases List.mem_append.mp hy with hy | hy
      · exact hl y hy
      · rw [List.mem_singleton.mp hy]; exact sd
    refine ⟨p', l', ?_, PW.mono h2 (by rw [List.length_cons]; omega), h3⟩
    unfold forF
    dsimp only
    rw [e1, Option.bind_some, szOk_ok (by omega), Option.bind_some]
    exact e2
def pOf : List (List Int) ⊕ (Int × List Int) → D
  | .inl o => .tuple [.str ("beside" : Str), eT (eT PyData.int) o]
  | .inr (m, x) => .tuple [.str ("stuck" : Str), .int m, eT PyData.int x]
theorem paper_of {pap : D} {q : List (List Int) ⊕ (Int × List Int)} (h : decQ pap = some q) : pap = pOf q := by
  unfold decQ at h
  split at h
  · split at h
    · rename_i s x e
      obtain ⟨t, ht, rfl⟩ := Option.map_eq_some_iff.mp h
      rw [e, toTW_eq ht]; rfl
    · cases h
  · split at h
    · rename_i s m x e
      obtain ⟨t, ht, rfl⟩ := Option.map_eq_some_iff.mp h
      rw [e, toW_eq ht]; rfl
    · cases h
  · cases h
theorem rt_of {g : List (List Int)} {q : List (List Int) ⊕ (Int × List Int)} (h : rtB w g q = true) : Rt w g (pOf q) := by
  cases q with
  | inl o =>
    unfold rtB at h
    simp only [Bool.and_eq_true, decide_eq_true_eq] at h
    exact .inl ⟨o, rfl, isG_of h.1.1, h.1.2, h.2⟩
  | inr p =>
    obtain ⟨m, x⟩ := p
    unfold rtB at h
    simp only [Bool.and_eq_true, decide_eq_true_eq, Bool.not_eq_true', decide_eq_false_iff_not] at h
    exact .inr ⟨m, x, rfl, h.1.1.1, h.1.1.2, h.1.2, h.2⟩
theorem lcF_congr {α β : Type} {f h : α → Option (Option β)} : ∀ {xs : List α}, (∀ x ∈ xs, f x = h x) → lcF f xs = lcF h xs
  | [], _ => rfl
  | x :: xs, hh => by
    unfold lcF
    rw [hh x (by simp), lcF_congr fun y hy => hh y (by simp [hy])]
theorem law_math (ns : List Int) (h : ns.length ≤ 63) : m_law ns = some true := by
  obtain ⟨p0, e0, h0⟩ := pool_ok ns
  refine bind_of p0 e0 ?_
  obtain ⟨r1, e1, w1, h1⟩ := wheels_ok (m := 24) h0 allW
  refine bind_of r1 e1 ?_
  obtain ⟨e, H⟩ := fw_of w1
  refine bind_of _ H.all ?_
  obtain ⟨g, p2, e2, G, h2⟩ := draw_group H.F (by decide) H.all H.ne (by have := H.l60; omega) h1 (by decide)
  refine bind_of (g, p2) e2 ?_
  have gl := H.F.few g G.nd G.el
  have hG := List.all_eq_true.mp (isW_at (p := fun w => (litOf w).all (chkG w)) w1 allG) g (full_of H.full G)
  have hH := List.all_eq_true.mp (isW_at (p := fun w => (litOf w).all (chkH w)) w1 allH) g (full_of H.full G)
  unfold chkG at hG
  unfold chkH at hH
  obtain ⟨pap, ep, hG⟩ := onS_of hG
  have hH := onS_and hH ep
  simp only [Bool.and_eq_true] at hG
  obtain ⟨⟨g1, g2⟩, g3⟩ := hG
  obtain ⟨l, el, g2⟩ := onS_of g2
  rw [Bool.and_eq_true, decide_eq_true_eq] at g2
  obtain ⟨q, eq, g3⟩ := onS_of g3
  obtain ⟨ys, ey, hH⟩ := onS_of hH
  obtain ⟨bg, eb, hH⟩ := onS_of hH
  rw [Bool.and_eq_true, decide_eq_true_eq] at hH
  obtain ⟨hN, hH⟩ := hH
  have hH := onS_and hH eq
  have sl : ∀ d ∈ l, Sm 40 S1 d := fun d hd => sm_of (List.all_eq_true.mp g2.1 d hd)
  have spap : Sm 40 S1 pap := by
    unfold btB at g1
    simp only [Bool.and_eq_true, decide_eq_true_eq] at g1
    exact ⟨cls_up (by decide) BSok _ g1.1.1.1, by omega, by omega, by omega⟩
  have ePap := paper_of eq
  have rt := rt_of g3
  rw [← ePap] at rt
  obtain ⟨b, j1, j2, j3⟩ := judge H G spap
  have bt : b = true := j3.mpr rt
  subst bt
  obtain ⟨p3, l', e3, h3, sl'⟩ := bent_loop g1 (irange 0 5) 5 p2 l (PW.mono h2 (by omega)) (by decide) (by have : (irange 0 5).length = 5 := rfl; omega) sl
  have loop : forR (ρ := Bool) (fun (x394 : D) (s393 : Unit) => (gd (okR x394)).bind fun u395 => (m_check_split r1.1 g x394).bind fun r396 => (m__law_right r1.1 g x394).bind fun r397 => (oor (!decide (r396 = r397)) ((gd (okR x394)).bind fun u398 => some (!decide ((x394).shown = (x394).shown)))).bind fun b399 => bif b399 then some (.inr false) else some (.inl ())) l' () = some (.inl ()) := forR_inl fun d hd => by
    have sd := sl' d hd
    obtain ⟨b, k1, k2, _⟩ := judge H G sd
    have ok : gd (okR d) = some () := by unfold gd; rw [sd.okR TX.toTxS]; rfl
    refine bind_of () ok (bind_of b k1 (bind_of b k2 (bind_of false ?_ rfl)))
    rw [decide_eq_true rfl, Bool.not_true, oor_f]
    refine bind_of () ok ?_
    rw [decide_eq_true rfl]; rfl
  have dq : ∀ {P : Prop}, (∀ o, q = .inl o → pap = .tuple [.str ("beside" : Str), eT (eT PyData.int) o] → P) → (∀ m x, q = .inr (m, x) → pap = .tuple [.str ("stuck" : Str), .int m, eT PyData.int x] → P) → P := fun f1 f2 => by
    cases q with
    | inl o => exact f1 o rfl ePap
    | inr p => exact f2 p.1 p.2 rfl ePap
  have word : ∃ ds wd, sq pap = some ds ∧ idx ds (0 : Int) = some wd ∧ gdS wd (PyData.str ("beside" : Str)) = some () ∧ spo r1.1 g = some (PyData.eqv wd (PyData.str ("beside" : Str))) ∧ PyData.eqv wd (PyData.str ("beside" : Str)) = q.isLeft := by
    refine dq (fun o hq hp => ?_) fun m x hq hp => ?_
    · subst hp hq
      exact ⟨[.str "beside", eT (eT PyData.int) o], .str "beside", rfl, rfl, gdS_bb, by rw [eqv_bb]; exact spo_b ep, eqv_bb⟩
    · subst hp hq
      exact ⟨[.str "stuck", .int m, eT PyData.int x], .str "stuck", rfl, rfl, gdS_sb, by rw [eqv_sb]; exact spo_s ep, eqv_sb⟩
  obtain ⟨ds, wd, w1', w2, w3, w4, w5⟩ := word
  refine bind_of pap ((split_eq H G).trans ep) (bind_of true j2 (bind_of false ?_ ?_))
  · rw [Bool.not_true, oor_f]
    refine bind_of _ ((off_eq H G).trans w4) (bind_of ds w1' (bind_of wd w2 (bind_of () w3 ?_)))
    rw [decide_eq_true rfl]; rfl
  rw [cond_false]
  have last : ((bif (!decide (r1.1 = [])) then (idx r1.1 (-(1 : Int))).bind fun x404 => some x404 else some (1 : Int)).bind fun v405 => (rng (1 : Int) (v405 + (1 : Int))).bind fun ks406 => (lcF (fun (x407 : Int) => (m_stuck_at r1.1 g x407).bind fun r408 => bif (!isNone ((eO (eT PyData.int)) r408)) then some (some x407) else some none) ks406).bind fun ys409 => (sq pap).bind fun ds410 => (idx ds410 (0 : Int)).bind fun x411 => (gdS x411 (PyData.str ("beside" : Str))).bind fun u412 => (oor (!decide ((decide (ys409 = [])) = (PyData.eqv x411 (PyData.str ("beside" : Str))))) ((m_beside_group r1.1 g).bind fun r413 => some (!decide ((isNone ((eO (eT (eT PyData.int))) r413)) = (!decide (ys409 = [])))))).bind fun b414 => bif b414 then some false else bif (!decide (ys409 = [])) then (idx ys409 (0 : Int)).bind fun x415 => (m_stuck_at r1.1 g x415).bind fun r416 => (m__law_right r1.1 g ((eQ PyData.str PyData.int (eO (eT PyData.int))) (("stuck" : Str), x415, r416))).bind fun r417 => some r417 else (m__law_pick p3 (alls r1.1)).bind fun r418 => (sq pap).bind fun ds430 => (idx ds430 (1 : Int)).bind fun x431 => (toTW x431).bind fun w432 => (m_parts_of r1.1 g w432 r418.1).bind fun r433 => (szL g).bind fun u434 => (lcF (fun (x435 : (List Int)) => (m__law_times r1.1 ((0 : Int) - (1 : Int)) x435).bind fun r436 => (m__law_sum r1.1 r418.1 r436).bind fun r437 => (sq pap).bind fun ds438 => (idx ds438 (1 : Int)).bind fun x439 => (toTW x439).bind fun w440 => bif (decide (r437 ∈ w440)) then some (some x435) else some none) g).bind fun ys441 => (oand (decide (r433.1 ∈ g)) ((sq pap).bind fun ds442 => (idx ds442 (1 : Int)).bind fun x443 => (toTW x443).bind fun w444 => (oand (decide (r433.2 ∈ w444)) ((m__law_sum r1.1 r433.1 r433.2).bind fun r445 => some ((decide (r445 = r418.1)) && (decide ((ys441.length : Int) = (1 : Int)))))).bind fun b446 => some b446)).bind fun b447 => some b447) = some true := by
    unfold stkF at ey
    obtain ⟨v, hv, ey⟩ := obind ey
    obtain ⟨ks, hks, ey⟩ := obind ey
    obtain ⟨ys', hys, ey⟩ := obind ey
    have eyy : ys' = ys := Option.some.inj ey
    subst eyy
    refine bind_of v hv (bind_of ks hks (bind_of ys' hys (bind_of ds w1' (bind_of wd w2 (bind_of () w3 ?_)))))
    rw [w5]
    have b0 : ∀ {t : Bool}, decide (ys' = []) = t → q.isLeft = t → (oor (!decide ((decide (ys' = [])) = q.isLeft)) ((m_beside_group r1.1 g).bind fun r413 => some (!decide ((isNone ((eO (eT (eT PyData.int))) r413)) = (!decide (ys' = [])))))) = some false := fun h1 h2 => by
      rw [h1, h2, decide_eq_true rfl, Bool.not_true, oor_f]
      refine bind_of bg ((beside_eq H).trans eb) ?_
      rw [h1] at hN
      rw [hN, decide_eq_true rfl]; rfl
    refine dq (fun o hq hp => ?_) fun m x hq hp => ?_
    · subst hq
      simp only [Bool.and_eq_true, decide_eq_true_eq, List.all_eq_true] at hH
      obtain ⟨hz, hH⟩ := hH
      refine bind_of false (b0 (decide_eq_true hz) rfl) ?_
      rw [cond_false, decide_eq_true hz, Bool.not_true, cond_false]
      obtain ⟨x, p4, e4, mx, h4⟩ := pick_ok h3 H.ne (by decide) (by have := H.l60; have : (2:Nat)^64 = 18446744073709551616 := rfl; omega)
      obtain ⟨pr, epr, hq⟩ := onS_of (hH x mx)
      simp only [Bool.and_eq_true, decide_eq_true_eq] at hq
      obtain ⟨⟨⟨q1, q2⟩, q3⟩, q4⟩ := hq
      obtain ⟨zs, ez, q4⟩ := onS_of q4
      have q4 := of_decide_eq_true q4
      have hs : sq pap = some [.str "beside", eT (eT PyData.int) o] := by rw [hp]; rfl
      have hi : idx [PyData.str ("beside" : Str), eT (eT PyData.int) o] (1 : Int) = some (eT (eT PyData.int) o) := rfl
      refine bind_of (x, p4) e4 (bind_of _ hs (bind_of _ hi (bind_of o (toTW_W o) (bind_of pr epr (bind_of () (szL_ok (by omega)) (bind_of zs ?_ (bind_of true ?_ rfl)))))))
      · rw [← ez]
        refine lcF_congr fun a ha => ?_
        refine bind_ext fun t _ => bind_ext fun u _ => ?_
        rw [hs]
        show ((idx [PyData.str ("beside" : Str), eT (eT PyData.int) o] (1 : Int)).bind fun x439 => (toTW x439).bind fun w440 => bif (decide (u ∈ w440)) then some (some a) else some none) = _
        rw [hi, Option.bind_some, toTW_W, Option.bind_some]
      · rw [decide_eq_true q1, oand_T]
        refine bind_of _ hs (bind_of _ hi (bind_of o (toTW_W o) (bind_of true ?_ rfl)))
        rw [decide_eq_true q2, oand_T]
        refine bind_of x q3 ?_
        rw [decide_eq_true rfl, decide_eq_true (show ((zs.length : Nat) : Int) = 1 by omega)]; rfl
    · subst hq
      obtain ⟨m', em, hH⟩ := onS_of hH
      obtain ⟨r, er, hH⟩ := onS_of hH
      have hz : ys' ≠ [] := fun z => by rw [z] at em; cases em
      refine bind_of false (b0 (decide_eq_false hz) rfl) ?_
      rw [cond_false, decide_eq_false hz, Bool.not_false, cond_true]
      refine bind_of m' em (bind_of r er ?_)
      cases r with
      | none => cases hH
      | some y =>
        rw [Bool.and_eq_true] at hH
        obtain ⟨b, _, k2, k3⟩ := judge H G (sm_of hH.1)
        have := k3.mpr (rt_of (q := .inr (m', y)) hH.2)
        subst this
        exact bind_of true k2 rfl
  unfold triedF at el
  obtain ⟨d1, f1, el⟩ := obind el
  obtain ⟨d2, f2, el⟩ := obind el
  obtain ⟨d3, f3, el⟩ := obind el
  obtain ⟨u1, f4, el⟩ := obind el
  obtain ⟨x1, f5, el⟩ := obind el
  obtain ⟨x2, f6, el⟩ := obind el
  obtain ⟨x3, f7, el⟩ := obind el
  obtain ⟨v1, f8, el⟩ := obind el
  obtain ⟨x4, f9, el⟩ := obind el
  obtain ⟨u2, f10, el⟩ := obind el
  refine bind_of d1 f1 (bind_of d2 f2 (bind_of d3 f3 (bind_of u1 f4 (bind_of x1 f5 (bind_of x2 f6 (bind_of x3 f7 (bind_of v1 f8 (bind_of x4 f9 (bind_of u2 f10 (bind_of l el (bind_of (irange 0 5) (rng_ok (by decide) (by decide) (by decide) (by decide)) (bind_of (p3, l') e3 (bind_of (.inl ()) loop ?_)))))))))))))
  exact last
end

end T
open PySem PySem.W PySem.Calls PyProof.Rows
set_option maxHeartbeats 0 in
theorem PySem.Challenge.cw_wheelsparted_k10_split_papers_judged_holds : PySem.Challenge.rw_wheelsparted_k10_split_papers_judged.Holds := by
  w_on; o_law
  refine HandSHeadRun.head_any (r := OpenLaw.row PySem.Challenge.rw_wheelsparted_k10_split_papers_judged) (q := view (OpenLaw.row PySem.Challenge.rw_wheelsparted_k10_split_papers_judged).prog [45]) (H := T.hk) (ob := T.ob) (M := 4000) (loose := T.loose) (d := HandSHeadRun.topDef (OpenLaw.row PySem.Challenge.rw_wheelsparted_k10_split_papers_judged).prog 45) (kwd := []) T.ob_eq
    (by kernel_rfl) (fun s => by kernel_rfl) T.run (by kernel_rfl) (by kernel_rfl) (by kernel_rfl) (by rfl) (by first | assumption | decide +kernel) (by decide +kernel) ⟨rfl, rfl, rfl, rfl, rfl, by decide +kernel⟩ ?hw ?hc
  case hw => w_witness2
  case hc =>
    refine _root_.G.walk_ofG (l := PySem.Challenge.rw_wheelsparted_k10_split_papers_judged) (n := 63) (k := 14) (x := "script") rfl (by decide) (by kernel_rfl) ⟨rfl, by decide, by decide⟩ ?F
    intro w mg fa h Y G hmg0
    obtain ⟨K, KX, c⟩ := Y
    have hmg : mg ("law" : PySem.Str) = some (.ref fa) := by
      have e : (HandSHeadRun.topDef (OpenLaw.row PySem.Challenge.rw_wheelsparted_k10_split_papers_judged).prog 45).name = ("law" : PySem.Str) := by kernel_rfl
      rw [← e]
      exact hmg0
    obtain ⟨fd, hb, hF⟩ := T.facts (P := (PySem.Challenge.rw_wheelsparted_k10_split_papers_judged).prog) (w := w) KX G hmg c
    exact ⟨K, T.tf.map (He.cT K), fd, _root_.G.spKv K T.M_law, KX, (fun p hp => by obtain ⟨q, hq, e⟩ := List.mem_map.mp hp; rw [← e]; exact c.empty q hq), (fun p hp => by obtain ⟨q, hq, e⟩ := List.mem_map.mp hp; rw [← e]; exact c.out q hq), (fun p hp => by obtain ⟨q, hq, e⟩ := List.mem_map.mp hp; rw [← e]; exact PySem.W.codeHd_of_K KX (c.hd q hq)), hb, fun H a ns hl hO hS => _root_.G.spKv_law (T.mk_law (T.law_math ns hl)) hO hS, hF⟩
