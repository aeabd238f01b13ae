import PyProof.Rows.All
import Wide.All
import OpenK.AllK
import Wide.FinOn
import HandS.ForMost
import HandS.HeadEnd
import HandS.IsInst
import HandS.Flow
import HandS.TupAny
import HandS.Exc
import PyProof.StrLawsRepr
import HandS.Defaults
import HandS.Head0
import HandS.Head1
import HandS.Head2
import HandS.HeadHook1
import HandS.HeadHook2
import Lean
import KE.KStar
import HandS.Style
import HandS.Zip
import HandS.ExcInit
import HandS.ExcField
import HandS.ExcOwn
import HandS.WordsExc
import HandS.TryMany
import HandS.More
import HandS.Conv
import HandS.Deep
import HandS.Dict
import HandS.OwnEq
import HandS.DictComp
import HandS.Iter
import KE.SortData
import KE.SortKeyHeap
import HandS.Keys
import HandS.SortKw
import KE.GoesComp
import KE.GoesMore
import KE.KDictKeyed
import KE.KeyNested
import KE.KDictList
import KE.KDictCopyH
import HandS.Spec
import KE.GoesZip
import PySem.Challenge.RW_longsheet_k31_webs_of_sheets
set_option Elab.async false
set_option linter.all false
set_option maxRecDepth 100000
set_option maxHeartbeats 2000000
/-! DL0: defs that are called where no repr is under way (FnG): as FnOk, with that fact handed to the body. -/
namespace DL
open PySem PySem.Spec PyProof.Rows L2
/-- no repr is under way -/
abbrev Ng (A : Around) : Prop := A.guards = some []
structure FnG (P : Program) (w : World) (K : PySem.W.Frag) (mg : Str → Option Value) (base : Heap) (k : Nat)
    (f : Addr) (fd : FuncData) (ps : List Str) (sp : Sp) : Prop where
  len : ∀ vs H Q E, sp vs H Q E → vs.length = ps.length
  run : ∀ (A : Around) (outer : List Env) (s : Shared) (H : Hp) (args : Args) (us : List Value) (vs : List V) (Q : VK) (E : XK),
    Ng A → Room k A → Env0 P w K mg base A outer s H → BindsTo s fd args (ps.zip us) → Vals vs us → sp vs H Q E →
    codeAny (model P w) A (.call (.ref f) args) (CR CX0 outer P w H s Q E) s
section
variable {P : Program} {w : World} {K : PySem.W.Frag} {mg : Str → Option Value} {base : Heap}
theorem FnG.of {k : Nat} {f : Addr} {fd : FuncData} {ps : List Str} {sp : Sp} (F : FnOk P w K mg base CX0 k f fd ps sp) : FnG P w K mg base k f fd ps sp :=
  ⟨F.len, fun A outer s H args us vs Q E _ => F.run A outer s H args us vs Q E⟩
theorem FnG.mono {j k : Nat} {f : Addr} {fd : FuncData} {ps : List Str} {sp : Sp} (F : FnG P w K mg base j f fd ps sp) (h : j ≤ k) : FnG P w K mg base k f fd ps sp :=
  ⟨F.len, fun A outer s H args us vs Q E hg hr => F.run A outer s H args us vs Q E hg (hr.mono h)⟩
theorem FnG.imp {k : Nat} {f : Addr} {fd : FuncData} {ps : List Str} {sp sp' : Sp} (F : FnG P w K mg base k f fd ps sp)
    (h : ∀ vs H Q E, sp' vs H Q E → sp vs H Q E) : FnG P w K mg base k f fd ps sp' :=
  ⟨fun vs H Q E q => F.len vs H Q E (h vs H Q E q), fun A outer s H args us vs Q E g r e b v q => F.run A outer s H args us vs Q E g r e b v (h vs H Q E q)⟩
/-- a def by its body -/
theorem fun_okG {x qual : Str} {st : Stmt} {f : Addr} {fd : FuncData} {N ps : List Str} {k : Nat} {sp : Sp} (F : Fun K x qual st f fd) (S : FnScope N ps (defScope st))
    (len : ∀ vs H Q E, sp vs H Q E → vs.length = ps.length)
    (hb : ∀ (cdv : Value) (A : Around) (outer : List Env) (s : Shared) (H : Hp) (vs : List V) (Q : VK) (E : XK), Ng A → Room k (A.deeper (envOfC qual (defScope st) s.heap.objs.size f cdv)) → sp vs H Q E →
      ∃ t, PSs (cxOf CX0 P w K mg base N qual (defScope st) f cdv A outer s H E).nox (defBody st) t ∧ t { nx := fun _ H2 => Q .non H2, rt := Q } (start N vs) H) :
    FnG P w K mg base (k + 1) f fd ps sp := by
  obtain ⟨oc, od, kV, doc, pm, an, cdv, ct, osl, rfl, lk, hcd⟩ := F.ex
  constructor
  · exact len
  intro A outer s H args us vs Q E gd rm en bd rel want
  have el := len _ _ _ _ want
  have keepB : ∀ (b : Addr) (o : Obj), base.get? b = some o → s.heap.get? b = some o := fun b o e => (en.bs b o e).1
  have inK : K.In s.heap := en.mod.kin.keeps keepB
  have noL : s.heap.NoLimit := en.mod.nolimit.keeps keepB
  have kinds : ∀ y ∈ ps.zip us, (defScope st).names.lookup y.1 = some .local ∨
      ((defScope st).names.lookup y.1 = some .cell ∧ ((cellsFrom (s.heap.objs.size + 1) (defScope st).names []).lookup y.1).isSome = true) := by
    rintro ⟨n, v⟩ hy
    cases S.par n (List.of_mem_zip hy).1 with
    | inl q => exact .inl q
    | inr q => exact .inr ⟨q, PySem.W.cellsFrom_some _ _ _ (.inl q)⟩
  refine codeAny_call_function rm.depth (inK _ _ lk) rfl S.co S.gen rfl (PySem.W.codeRec_of inK hcd)
    (bd _ _ _ _ (wpAny_newFunctionEnv_cells S.kind kinds fun env he s1 x => ?_))
  cases he
  refine ⟨noL.keeps x.toInCall.keep, codeAny_func ?_⟩
  obtain ⟨t, ht, hq⟩ := hb cdv A outer s H vs Q E gd (rm.deeper _) want
  have I0 := inv_start (CX := CX0) (qual := qual) (f := f) (cd := cdv) (E := E) S rm.hd en el rel x
  refine wpAny_mono (ht.nox.run [] s1 _ H _ I0 hq) (fun fl s' hs => ?_) (fun _ _ hs => hs)
  cases fl with
  | next =>
    obtain ⟨σ2, H2, J, q⟩ := hs
    exact ⟨V.non, H2, J.os, J.bare, J.base, J.hok, rfl, q⟩
  | ret u =>
    obtain ⟨v, σ2, H2, J, rv, q⟩ := hs
    exact ⟨v, H2, J.os, J.bare, J.base, J.hok, rv, q⟩
  | brk => obtain ⟨_, _, _, q⟩ := hs; exact q.elim
  | cont => obtain ⟨_, _, _, q⟩ := hs; exact q.elim
end
section
variable {X : Cx} {k : Nat} {f : Addr} {fd : FuncData} {ps : List Str} {sp : Sp} {x : Str} {ds : List Value} {dvs : List V} {e : Expr} {es : List Expr} {t : TA} {p pos : Pos}
theorem run_fnG {pins : List (Addr × Obj)} {σ : L2.St} {H : Hp} {s : Shared} {Q : VK} {us : List Value} {vs : List V} (F : FnG X.prog X.w X.K X.mg X.base k f fd ps sp)
    (hgd : Ng X.A) (hr : Room k X.A) (hb : Binds X.K fd ps ds) (hd : Vals dvs ds) (I : Inv X pins σ H s) (r : Vals vs us) (h : sp (vs ++ dvs) H Q E0) :
    wpAny (model X.prog X.w) X.A (call (.ref f) us) (EP X pins σ Q) X.xe s := by
  have rr : Vals (vs ++ dvs) (us ++ ds) := r.append hd
  have ll : (us ++ ds).length = ps.length := rr.length.symm.trans (F.len _ _ _ _ h)
  have z := F.run X.A X.stack s H ⟨us, []⟩ (us ++ ds) (vs ++ dvs) Q E0 hgd hr I.env0 (hb s us I.kIn ll) rr h
  refine wpAny_call (codeAny_mono z fun res s' hq => ?_)
  rcases res with er | fl
  · exact False.elim hq
  · cases fl with
    | ret u => exact I.after hq
    | next => exact hq.elim
    | brk => exact hq.elim
    | cont => exact hq.elim
theorem pe_callG (F : FnG X.prog X.w X.K X.mg X.base k f fd ps sp) (hgd : Ng X.A) (hr : Room k X.A) (hg : Gl X x) (hm : X.mg x = some (.ref f)) (hk : PySem.W.keepIn X.K (.ref f) = true)
    (hb : Binds X.K fd ps ds) (hd : Vals dvs ds) (ha : PA X (e :: es) t) (hdb : (x == ("__debug__" : Str)) = false := by decide)
    (he : starEach (e :: es) X.env = (false, eval e X.env) :: starEach es X.env := by rfl) (hpl : (backTo pos (starEach es X.env)).any (·.1) = false := by rfl) :
    PE X (.Call (.Name x p) (e :: es) [] pos) (tCall sp dvs E0 t) :=
  ⟨fun pins s σ H Q I h => wpAny_Call_Name_kw (ld_glob I hg hm (PySem.W.callWith_K (h₀ := X.base) I.ok.mod.kin hk
    (thn (ha.run pos pins s σ H _ I h) fun _ _ ⟨_, _, I1, r, q⟩ => ⟨I1.kIn, run_fnG F hgd hr hb hd I1 r q⟩) he hpl) hdb)⟩
theorem pe_callG0 (F : FnG X.prog X.w X.K X.mg X.base k f fd ps sp) (hgd : Ng X.A) (hr : Room k X.A) (hg : Gl X x) (hm : X.mg x = some (.ref f)) (hk : PySem.W.keepIn X.K (.ref f) = true)
    (hb : Binds X.K fd ps ds) (hd : Vals dvs ds) (hdb : (x == ("__debug__" : Str)) = false := by decide) : PE X (.Call (.Name x p) [] [] pos) (tCall sp dvs E0 tNil) :=
  ⟨fun pins s σ H Q I h => wpAny_Call_Name_kw (ld_glob I hg hm (PySem.W.callWith_K0 I.kIn hk (run_fnG (us := []) F hgd hr hb hd I .nil h)) hdb)⟩
end
/-- the law's own call -/
theorem law_callG {P : Program} {w : World} {K : PySem.W.Frag} {mg mb : Str → Option Value} {k : Nat} {fa a : Addr} {fd : FuncData} {x : Str} {sp : Sp} {s1 : Shared} {vs : List Value} {ns : List Int}
    (inK : K.In s1.heap) (nsG : s1.heap.Ns mainGlobals mg) (nsB : s1.heap.Ns builtinsNs mb) (eqB : ∀ x : Str, x ≠ "__name__" → mb x = bootBuiltins x) (noL : s1.heap.NoLimit) (noG : s1.gens = #[])
    (ha : s1.heap.get? a = some { cls := .type "list", data := .seq vs.toArray }) (hi : IntsAre vs ns) (hl : ns.length ≤ sizeLine) (rm : Room k callerA)
    (F : ∀ base : Heap, K.In base → base.Ns mainGlobals mg → FnG P w K mg base k fa fd [x] sp) (bind1 : ∀ (s : Shared) (u : Value), BindsTo s fd ⟨[u], []⟩ [(x, u)])
    (want : ∀ H : Hp, Only H → SqL K H a (ns.map V.int) → sp [.ref a] H (fun v _ => v = .bl true) fun _ _ _ => False) :
    codeAny (model P w) callerA (.call (.ref fa) ⟨[.ref a], []⟩) (fun r s' => r = .ok (.ret (.bool true)) ∧ OldK s1.heap s'.heap ∧ s'.os = s1.os ∧ AllBare s'.gens) s1 := by
  have rel := vals_ints hi
  have eqn := hi.length
  have goal : ∀ H : Hp, Only H → SqL K H a (ns.map V.int) → HOk P w H s1.heap → (∀ b, H b ≠ none → b = a) → (H a ≠ none → K.lookup a = none) →
      codeAny (model P w) callerA (.call (.ref fa) ⟨[.ref a], []⟩) (fun r s' => r = .ok (.ret (.bool true)) ∧ OldK s1.heap s'.heap ∧ s'.os = s1.os ∧ AllBare s'.gens) s1 := by
    intro H only seq hok onlyA noK
    have free : ∀ {b : Addr}, b ≠ a → H b = none := fun {b} hb => by
      cases q : H b with
      | none => rfl
      | some u => exact absurd (onlyA b (by rw [q]; exact Option.some_ne_none u)) hb
    have dictFree : ∀ {b : Addr} {o : Obj} {es : Array DictEntry} {ep : Nat}, s1.heap.get? b = some o → o.data = .dict es ep → H b = none := by
      intro b o es ep e d
      refine free fun z => ?_
      rw [z, ha] at e
      cases e
      cases (show Data.seq vs.toArray _ = Data.dict es ep from d)
    have nsUp : ∀ {b : Addr} {m : Str → Option Value}, s1.heap.Ns b m → (hidT s1.heap H).Ns b m := by
      rintro b m ⟨o, es, ep, e, d, r⟩
      exact ⟨o, es, ep, hidT_get e (dictFree e d), d, r⟩
    have inB : K.In (hidT s1.heap H) := fun b o e => hidT_get (inK b o e) (by
      cases q : H b with
      | none => rfl
      | some u =>
        have ba : b = a := onlyA b (by rw [q]; exact Option.some_ne_none u)
        rw [ba] at e q
        rw [noK (by rw [q]; exact Option.some_ne_none u)] at e
        cases e)
    have md : Mod K mg (hidT s1.heap H) := ⟨inB, nsUp nsG, ⟨mb, nsUp nsB, eqB⟩, by obtain ⟨mc, h1, h2⟩ := noL; exact ⟨mc, nsUp h1, h2⟩⟩
    have en : Env0 P w K mg (hidT s1.heap H) callerA [] s1 H :=
      ⟨rfl, md, fun b o e => of_hidT e, Nat.le_of_eq (hidT_size _ _), trivial, fun b hb => (List.not_mem_nil (show b ∈ ([] : List Addr) from hb)).elim, hok, .of_eq noG⟩
    have z := (F _ inB (nsUp nsG)).run callerA [] s1 H ⟨[.ref a], []⟩ [.ref a] [.ref a] _ _ rfl rm en (bind1 s1 (.ref a)) (.cons rfl .nil) (want H only seq)
    refine codeAny_mono z fun res s' h => ?_
    rcases res with er | fl
    · exact False.elim h
    · cases fl with
      | ret u =>
        obtain ⟨v, H2, os, bare, un, hok2, rv, q⟩ := h
        cases (show v = .bl true from q)
        cases (show u = Value.bool true from rv)
        refine ⟨rfl, OldK.of_keep fun b o e => ?_, os, bare⟩
        rcases only b with z | ⟨ob, xs, z⟩
        · exact un.keep b o e z (fun y => List.not_mem_nil (show b ∈ ([] : List Addr) from y)) List.not_mem_nil
        · have e1 := (hok b _ z).1
          rw [e] at e1
          cases e1
          exact (hok2 b _ (un.frzs b _ _ z)).1
      | next => exact h.elim
      | brk => exact h.elim
      | cont => exact h.elim
  cases hk : K.lookup a with
  | some o =>
    have e := inK a o hk
    rw [ha] at e
    cases e
    exact goal (fun _ => none) (fun _ => .inl rfl) (.inr ⟨_, vs.toArray, _, hk, rfl, rfl, rfl, by rw [List.size_toArray, eqn]; exact hl, by simpa using rel⟩)
      (fun b u z => nomatch (show (none : Option HO) = some u from z)) (fun b z => absurd rfl z) (fun z => absurd rfl z)
  | none =>
    let S : HO := .frz { cls := .type "list", data := .seq vs.toArray } (.lst (ns.map V.int))
    have at1 : ∀ {b : Addr}, b = a → (fun c => if c = a then some S else none : Hp) b = some S := fun e => if_pos e
    have at2 : ∀ {b : Addr}, b ≠ a → (fun c => if c = a then some S else none : Hp) b = none := fun e => if_neg e
    refine goal (fun c => if c = a then some S else none) (fun b => ?_) (.inl (.inr ⟨_, at1 rfl⟩)) (fun b u z => ?_) (fun b z => ?_) (fun _ => hk)
    · by_cases hb : b = a
      · exact .inr ⟨_, _, at1 hb⟩
      · exact .inl (at2 hb)
    · by_cases hb : b = a
      · cases (at1 hb).symm.trans z
        cases hb
        exact ⟨ha, by rw [List.length_map]; exact hl, vs, _, rel, ha⟩
      · cases (at2 hb).symm.trans z
    · by_cases hb : b = a
      · exact hb
      · exact absurd (at2 hb) z
theorem walk_ofG {l : PySem.W.OpenLaw} {n k : Nat} {q : Program} {loose : List Str} {XP : (Str → Option Value) → Heap → Prop} {YP : World → Heap → Prop} {d : DefRec} {x : Str}
    (hn : l.most = some n) (hn2 : n ≤ sizeLine) (hdf : d.params.defaults = []) (rm : Room k callerA)
    (F : ∀ (w : World) (mg : Str → Option Value) (fa : Addr) (h : Heap), YP w h → h.Ns mainGlobals mg → mg d.name = some (.ref fa) →
      ∃ (K : PySem.W.Frag) (fd : FuncData) (sp : Sp), K.In h ∧ (∀ (s : Shared) (u : Value), BindsTo s fd ⟨[u], []⟩ [(x, u)]) ∧
        (∀ (H : Hp) (a : Addr) (ns : List Int), ns.length ≤ n → Only H → SqL K H a (ns.map V.int) → sp [.ref a] H (fun v _ => v = .bl true) fun _ _ _ => False) ∧
        ∀ base : Heap, K.In base → base.Ns mainGlobals mg → FnG l.prog w K mg base k fa fd [x] sp) :
    PySem.W.WalkO q loose XP YP l.row.toRowW d [] (fun f vs => PySem.call f vs) :=
  Att.attach_call hn hdf fun w _ s1 mg _ fa _ _ _ _ a _ ns T Y _ _ _ hmg hobj hints hlen hg => by
    obtain ⟨K, fd, sp, KX, hb, hsp, hF⟩ := F w mg fa _ Y T.T.g hmg
    exact law_callG KX T.T.g T.T.b T.T.builtins T.T.nolimit hg hobj hints (Nat.le_trans hlen hn2) rm hF hb (fun H hO hS => hsp H a ns hlen hO hS)
end DL

set_option Elab.async false
set_option linter.all false
set_option maxRecDepth 100000
set_option maxHeartbeats 2000000
/-! DL1: the data layer. Values as trees (D), slots as data (Sl), a relation to the abstract heap, judgements over data. -/
namespace DL
open PySem PySem.Spec PyProof.Rows L2

inductive D where
  | non | bl (b : Bool) | int (i : Int) | str (x : Str)
  | lst (xs : List D) | tup (xs : List D)
  | dK (ks : List Key) (vs : List D)
  | dT (ks : List (List Key)) (vs : List D)
  | ins (C : Addr) (ns : List Str) (vs : List D)

mutual
inductive Dd (K : PySem.W.Frag) (G : Hp) : V → D → Prop
  | non : Dd K G .non .non
  | bl (b : Bool) : Dd K G (.bl b) (.bl b)
  | int (i : Int) : Dd K G (.int i) (.int i)
  | str (x : Str) : Dd K G (.str x) (.str x)
  | lst {a : Addr} {xs : List V} {ds : List D} : G a = some (.lst xs) → DdA K G xs ds → Dd K G (.ref a) (.lst ds)
  | tup {a : Addr} {xs : List V} {ds : List D} : SqT K G a xs → DdA K G xs ds → Dd K G (.ref a) (.tup ds)
  | dK {a : Addr} {ks : List Key} {xs : List V} {ds : List D} : ks.length = xs.length → G a = some (.dK (ks.zip xs)) → DdA K G xs ds → Dd K G (.ref a) (.dK ks ds)
  | dT {a : Addr} {ks : List (List Key)} {xs : List V} {ds : List D} : ks.length = xs.length → G a = some (.dT (ks.zip xs)) → DdA K G xs ds → Dd K G (.ref a) (.dT ks ds)
  | ins {a C dx : Addr} {ns : List Str} {xs : List V} {ds : List D} : ns.length = xs.length → G a = some (.ins C dx (ns.zip xs)) → DdA K G xs ds → Dd K G (.ref a) (.ins C ns ds)
inductive DdA (K : PySem.W.Frag) (G : Hp) : List V → List D → Prop
  | nil : DdA K G [] []
  | cons {v : V} {vs : List V} {d : D} {ds : List D} : Dd K G v d → DdA K G vs ds → DdA K G (v :: vs) (d :: ds)
end
theorem sameT {K : PySem.W.Frag} {H H' : Hp} {a : Addr} {xs : List V} (e : Same H H') (h : SqT K H a xs) : SqT K H' a xs := by
  rcases h with (h | ⟨o, h⟩) | h
  · exact .inl (.inl (e _ _ h))
  · exact .inl (.inr ⟨o, e _ _ h⟩)
  · exact .inr h
section
variable {K : PySem.W.Frag} {G G' : Hp}
mutual
theorem Dd.mono (e : Same G G') : ∀ (d : D) (v : V), Dd K G v d → Dd K G' v d
  | .non, _, h => by cases h; exact .non
  | .bl b, _, h => by cases h; exact .bl b
  | .int i, _, h => by cases h; exact .int i
  | .str x, _, h => by cases h; exact .str x
  | .lst ds, _, h => by cases h with | lst h1 h2 => exact .lst (e _ _ h1) (DdA.mono e ds _ h2)
  | .tup ds, _, h => by cases h with | tup h1 h2 => exact .tup (sameT e h1) (DdA.mono e ds _ h2)
  | .dK ks ds, _, h => by cases h with | dK h0 h1 h2 => exact .dK h0 (e _ _ h1) (DdA.mono e ds _ h2)
  | .dT ks ds, _, h => by cases h with | dT h0 h1 h2 => exact .dT h0 (e _ _ h1) (DdA.mono e ds _ h2)
  | .ins C ns ds, _, h => by cases h with | ins h0 h1 h2 => exact .ins h0 (e _ _ h1) (DdA.mono e ds _ h2)
theorem DdA.mono (e : Same G G') : ∀ (ds : List D) (vs : List V), DdA K G vs ds → DdA K G' vs ds
  | [], _, h => by cases h; exact .nil
  | d :: ds, _, h => by cases h with | cons h1 h2 => exact .cons (Dd.mono e d _ h1) (DdA.mono e ds _ h2)
end
theorem DdA.len : ∀ {vs : List V} {ds : List D}, DdA K G vs ds → vs.length = ds.length
  | _, [], h => by cases h; rfl
  | _, d :: ds, h => by cases h with | cons h1 h2 => simp [DdA.len h2]
theorem DdA.get : ∀ {vs : List V} {ds : List D} {i : Nat} {d : D}, DdA K G vs ds → ds[i]? = some d → ∃ v, vs[i]? = some v ∧ Dd K G v d
  | _, [], _, _, _, e => by simp at e
  | _, d :: ds, 0, _, h, e => by cases h with | cons h1 h2 => simp at e; subst e; exact ⟨_, rfl, h1⟩
  | _, d :: ds, i + 1, _, h, e => by cases h with | cons h1 h2 => exact DdA.get (i := i) h2 (by simpa using e)
theorem DdA.append : ∀ {vs ws : List V} {ds es : List D}, DdA K G vs ds → DdA K G ws es → DdA K G (vs ++ ws) (ds ++ es)
  | _, _, [], _, h, h' => by cases h; exact h'
  | _, _, d :: ds, _, h, h' => by cases h with | cons h1 h2 => exact .cons h1 (DdA.append h2 h')
theorem DdA.one {v : V} {d : D} (h : Dd K G v d) : DdA K G [v] [d] := .cons h .nil
theorem DdA.set : ∀ {vs : List V} {ds : List D} (i : Nat) {v : V} {d : D}, DdA K G vs ds → Dd K G v d → DdA K G (vs.set i v) (ds.set i d)
  | _, [], _, _, _, h, _ => by cases h; exact .nil
  | _, d :: ds, 0, _, _, h, h' => by cases h with | cons h1 h2 => exact .cons h' h2
  | _, d :: ds, i + 1, _, _, h, h' => by cases h with | cons h1 h2 => exact .cons h1 (DdA.set i h2 h')
theorem DdA.take : ∀ {vs : List V} {ds : List D} (n : Nat), DdA K G vs ds → DdA K G (vs.take n) (ds.take n)
  | _, [], _, h => by cases h; simp; exact .nil
  | _, d :: ds, 0, h => by simp; exact .nil
  | _, d :: ds, n + 1, h => by cases h with | cons h1 h2 => exact .cons h1 (DdA.take n h2)
theorem DdA.drop : ∀ {vs : List V} {ds : List D} (n : Nat), DdA K G vs ds → DdA K G (vs.drop n) (ds.drop n)
  | _, [], _, h => by cases h; simp; exact .nil
  | _, d :: ds, 0, h => h
  | _, d :: ds, n + 1, h => by cases h with | cons h1 h2 => exact DdA.drop n h2
theorem DdA.map {α : Type} {f : α → V} {g : α → D} (h : ∀ x, Dd K G (f x) (g x)) : ∀ l : List α, DdA K G (l.map f) (l.map g)
  | [] => .nil
  | x :: l => .cons (h x) (DdA.map h l)
end

/-! ### slots -/
inductive Sl where
  | no | dt (d : D) | ol (ds : List D) | oK (ks : List Key) (vs : List D) | oT (ks : List (List Key)) (vs : List D) | oI (x C : Addr) (ns : List Str) (vs : List D) | oL (x : Addr) (ds : List D) | bag | cnt | xcp (a dd C : Addr) (ns : List Str) (vs : List D)
def Sl.isOwn : Sl → Bool
  | .ol _ => true
  | .oK _ _ => true
  | .oT _ _ => true
  | .oI _ _ _ _ => true
  | .oL _ _ => true
  | _ => false

/-- what may change under way and is passed on by its address: the bag (with the address of its numbers), a counter -/
inductive Cell where | bag (c : Addr) | cnt
abbrev Bg := List (Addr × Cell)
def NotB (B : Bg) (a : Addr) : Prop := ∀ c, (a, c) ∉ B
/-- the law's bag of numbers; a list of one number -/
def BagOk (H G : Hp) (b : Addr) : Cell → Prop
  | .bag c => ∃ (x m i : Int) (ns : List Int), H b = some (.lst [.int x, .int m, .int i, .ref c]) ∧ G b = none ∧ G c = some (.lst (ns.map V.int)) ∧ 0 ≤ x ∧ (∀ n ∈ ns, (0 : Int) ≤ n) ∧ 0 ≤ m ∧ m < 2147483647 ∧ 0 ≤ i ∧ ns.length ≤ 63
  | .cnt => ∃ n : Int, H b = some (.lst [.int n]) ∧ G b = none

/-- an owned thing at a -/
def OwnAt (K : PySem.W.Frag) (H G : Hp) (a : Addr) : Sl → Prop
  | .ol ds => ∃ vs, H a = some (.lst vs) ∧ DdA K G vs ds
  | .oK ks ds => ∃ vs, ks.length = vs.length ∧ H a = some (.dK (ks.zip vs)) ∧ DdA K G vs ds
  | .oT ks ds => ∃ vs, ks.length = vs.length ∧ H a = some (.dT (ks.zip vs)) ∧ DdA K G vs ds
  | .oI x C ns ds => a = x ∧ ∃ dx vs, ns.length = vs.length ∧ H a = some (.ins C dx (ns.zip vs)) ∧ DdA K G vs ds
  | .oL x ds => a = x ∧ ∃ vs, H a = some (.lst vs) ∧ DdA K G vs ds
  | _ => False
/-- a value as data -/
def ValOk (K : PySem.W.Frag) (B : Bg) (H G : Hp) (v : V) : Sl → Prop
  | .no => True
  | .dt d => Dd K G v d
  | .bag => ∃ b c, (b, Cell.bag c) ∈ B ∧ v = .ref b
  | .cnt => ∃ b, (b, Cell.cnt) ∈ B ∧ v = .ref b
  | .xcp a dd _ ns ds => v = .ref a ∧ ∃ xs, ns.length = xs.length ∧ G dd = some (.xd (ns.zip xs)) ∧ DdA K G xs ds
  | s => ∃ a, v = .ref a ∧ G a = none ∧ OwnAt K H G a s
def Own (σ : L2.St) (δ : List Sl) (i : Nat) (a : Addr) : Prop := σ[i]? = some (some (.ref a)) ∧ ∃ s, δ[i]? = some s ∧ s.isOwn = true

/-- sizes are within the line -/
def SzO : HO → Prop
  | .lst xs => xs.length ≤ sizeLine
  | .tup xs => xs.length ≤ sizeLine
  | .dK kvs => kvs.length ≤ sizeLine
  | .dT kvs => kvs.length ≤ sizeLine
  | .frz _ u => SzO u
  | _ => True
def HSz (H : Hp) : Prop := ∀ a o, H a = some o → SzO o
theorem HSz.upd {H : Hp} {p : Addr} {o : HO} (h : HSz H) (z : SzO o) : HSz (upd H p o) := fun b x e => by
  by_cases hb : b = p
  · subst hb; rw [upd_same] at e; cases e; exact z
  · rw [upd_ne hb] at e; exact h _ _ e
theorem HSz.of {P : Program} {w : World} {H : Hp} {h : Heap} (ok : HOk P w H h) : HSz H := fun a o e => by
  have z := ok a o e
  clear e
  induction o with
  | lst xs => exact z.1
  | tup xs => exact z.1
  | dK xs => exact z.1
  | dT xs => exact z.1
  | frz ob u ih => exact ih z.2
  | _ => trivial
structure Rel (K : PySem.W.Frag) (B : Bg) (H0 G0 : Hp) (H : Hp) (σ : L2.St) (δ : List Sl) (G : Hp) : Prop where
  sub : Same G H
  g0 : Same G0 G
  ent : ∀ a o, H0 a = some o → NotB B a → H a = some o
  len : σ.length = δ.length
  sl : ∀ (i : Nat) (s : Sl), δ[i]? = some s → s = .no ∨ ∃ v, σ[i]? = some (some v) ∧ ValOk K B H G v s
  sep : ∀ i j a, Own σ δ i a → Own σ δ j a → i = j
  own : ∀ i a, Own σ δ i a → H0 a = none ∧ G a = none ∧ NotB B a
  bag : ∀ b c, (b, c) ∈ B → BagOk H G b c
  gn : ∀ a o, G a = some o → G0 a = some o ∨ H0 a = none
  sz : HSz H

/-- a result: a value as data, and, if it is owned, owned by nobody else -/
def ResOk (K : PySem.W.Frag) (B : Bg) (H0 : Hp) (H : Hp) (σ : L2.St) (δ : List Sl) (G : Hp) (v : V) (r : Sl) : Prop :=
  ValOk K B H G v r ∧ r ≠ .no ∧ (r.isOwn = true → ∀ a, v = .ref a → H0 a = none ∧ NotB B a ∧ ∀ i, ¬ Own σ δ i a)

/-- nothing is changed but the bag -/
def Fra (B : Bg) (H H' : Hp) : Prop := ∀ a o, H a = some o → NotB B a → H' a = some o
theorem Fra.refl (B : Bg) (H : Hp) : Fra B H H := fun _ _ e _ => e
theorem Fra.trans {B : Bg} {H H1 H2 : Hp} (x : Fra B H H1) (y : Fra B H1 H2) : Fra B H H2 := fun a o e n => y a o (x a o e n) n
theorem Fra.upd {B : Bg} {H : Hp} {p : Addr} {o : HO} (hp : H p = none) : Fra B H (upd H p o) := fun b x e _ => by rw [upd_ne (ne_of_none e hp)]; exact e
abbrev QD := Sl → List Sl → Prop
abbrev TD := List Sl → QD → Prop
def MonoD (t : TD) : Prop := ∀ δ (Q Q' : QD), t δ Q → (∀ r δ', Q r δ' → Q' r δ') → t δ Q'
def tyE (K : PySem.W.Frag) (t : TD) : TE := fun σ H Q => ∃ B H0 G0 δ G, Rel K B H0 G0 H σ δ G ∧ t δ (fun r δ' => ∀ v H' G', Rel K B H0 G0 H' σ δ' G' → Same G G' → Fra B H H' → ResOk K B H0 H' σ δ' G' v r → Q v H')
structure PD (X : Cx) (e : Expr) (t : TD) : Prop where
  pe : PE X e (tyE X.K t)
  mono : MonoD t
/-- a weaker reading -/
theorem PE.weak {X : Cx} {e : Expr} {t t' : TE} (h : PE X e t) (w : ∀ σ H Q, t' σ H Q → t σ H Q) : PE X e t' := ⟨fun pins s σ H Q I q => h.run pins s σ H Q I (w σ H Q q)⟩
theorem PT.weak {X : Cx} {e : Expr} {t t' : TT} (h : PT X e t) (w : ∀ σ H Q, t' σ H Q → t σ H Q) : PT X e t' := ⟨fun pins s σ H Q I q => h.run pins s σ H Q I (w σ H Q q)⟩

/-! ### facts of the relation -/
section
variable {K : PySem.W.Frag} {B : Bg} {H0 G0 H H' G G' : Hp} {σ : L2.St} {δ : List Sl}
theorem BagOk.up {b : Addr} {c : Cell} (h : BagOk H G b c) (e : H' b = H b) (s : Same G G') (n : G' b = none) : BagOk H' G' b c := by
  cases c with
  | bag c =>
    obtain ⟨x, m, i, ns, h1, h2, h3, h4⟩ := h
    exact ⟨x, m, i, ns, e.trans h1, n, s _ _ h3, h4⟩
  | cnt =>
    obtain ⟨k, h1, h2⟩ := h
    exact ⟨k, e.trans h1, n⟩
theorem BagOk.there {b : Addr} {c : Cell} (h : BagOk H G b c) : ∃ o, H b = some o := by
  cases c with
  | bag c => obtain ⟨x, m, i, ns, h1, _⟩ := h; exact ⟨_, h1⟩
  | cnt => obtain ⟨k, h1, _⟩ := h; exact ⟨_, h1⟩
theorem BagOk.gn {b : Addr} {c : Cell} (h : BagOk H G b c) : G b = none := by
  cases c with
  | bag c => obtain ⟨x, m, i, ns, h1, h2, _⟩ := h; exact h2
  | cnt => obtain ⟨k, h1, h2⟩ := h; exact h2
theorem xcp_mono (g : Same G G') {v : V} {a dd : Addr} {ns : List Str} {ds : List D} (h : v = .ref a ∧ ∃ xs, ns.length = xs.length ∧ G dd = some (.xd (ns.zip xs)) ∧ DdA K G xs ds) : v = .ref a ∧ ∃ xs, ns.length = xs.length ∧ G' dd = some (.xd (ns.zip xs)) ∧ DdA K G' xs ds := by
  obtain ⟨e, xs, h0, h1, h2⟩ := h
  exact ⟨e, xs, h0, g _ _ h1, DdA.mono g _ _ h2⟩
theorem OwnAt.up {a : Addr} {s : Sl} (h : OwnAt K H G a s) (e : ∀ o, H a = some o → H' a = some o) (g : Same G G') : OwnAt K H' G' a s := by
  cases s <;> first | exact h | skip
  · obtain ⟨vs, h1, h2⟩ := h; exact ⟨vs, e _ h1, DdA.mono g _ _ h2⟩
  · obtain ⟨vs, h0, h1, h2⟩ := h; exact ⟨vs, h0, e _ h1, DdA.mono g _ _ h2⟩
  · obtain ⟨vs, h0, h1, h2⟩ := h; exact ⟨vs, h0, e _ h1, DdA.mono g _ _ h2⟩
  · obtain ⟨ex, dx, vs, h0, h1, h2⟩ := h; exact ⟨ex, dx, vs, h0, e _ h1, DdA.mono g _ _ h2⟩
  · obtain ⟨ex, vs, h1, h2⟩ := h; exact ⟨ex, vs, e _ h1, DdA.mono g _ _ h2⟩
theorem OwnAt.there {a : Addr} {s : Sl} (h : OwnAt K H G a s) : ∃ o, H a = some o := by
  cases s <;> first | exact h.elim | skip
  · obtain ⟨vs, h1, h2⟩ := h; exact ⟨_, h1⟩
  · obtain ⟨vs, h0, h1, h2⟩ := h; exact ⟨_, h1⟩
  · obtain ⟨vs, h0, h1, h2⟩ := h; exact ⟨_, h1⟩
  · obtain ⟨_, dx, vs, h0, h1, h2⟩ := h; exact ⟨_, h1⟩
  · obtain ⟨_, vs, h1, h2⟩ := h; exact ⟨_, h1⟩
theorem Rel.at (R : Rel K B H0 G0 H σ δ G) {i : Nat} {a : Addr} (o : Own σ δ i a) : ∃ s, δ[i]? = some s ∧ s.isOwn = true ∧ OwnAt K H G a s := by
  obtain ⟨e, s, es, io⟩ := o
  refine ⟨s, es, io, ?_⟩
  rcases R.sl i s es with rfl | ⟨v, ev, ok⟩
  · cases io
  · rw [e] at ev
    cases ev
    cases s <;> first | cases io | skip
    all_goals
      obtain ⟨a', e', _, h⟩ := ok
      cases e'
      exact h
theorem Rel.new0 (R : Rel K B H0 G0 H σ δ G) {p : Addr} (hp : H p = none) : H0 p = none := by
  cases q : H0 p with
  | none => rfl
  | some o =>
    rw [R.ent p o q (fun c e => by
      obtain ⟨_, h1⟩ := (R.bag p c e).there
      rw [h1] at hp; cases hp)] at hp
    cases hp
/-- a new object is laid into the shared part -/
theorem Rel.laidG (R : Rel K B H0 G0 H σ δ G) {p : Addr} {o : HO} (hp : H p = none) (so : SzO o) : Rel K B H0 G0 (upd H p o) σ δ (upd G p o) ∧ Same G (upd G p o) := by
  have gp : G p = none := R.sub.free hp
  have sH : Same H (upd H p o) := fun b x e => by rw [upd_ne (ne_of_none e hp)]; exact e
  have sG : Same G (upd G p o) := fun b x e => by rw [upd_ne (ne_of_none e gp)]; exact e
  have ne : ∀ i a, Own σ δ i a → a ≠ p := fun i a oa => by
    obtain ⟨s, _, _, h⟩ := R.at oa
    obtain ⟨x, hx⟩ := h.there
    exact ne_of_none hx hp
  have nb : ∀ b c, (b, c) ∈ B → b ≠ p := fun b c e => by
    obtain ⟨_, h1⟩ := (R.bag b c e).there
    exact ne_of_none h1 hp
  refine ⟨⟨fun b x e => ?_, R.g0.trans sG, fun a x e nB => sH _ _ (R.ent a x e nB), R.len, fun i s e => ?_, R.sep, fun i a oa => ?_, fun b c e => ?_, fun a x e => ?_, R.sz.upd so⟩, sG⟩
  · by_cases hb : b = p
    · subst hb; rw [upd_same] at e ⊢; exact e
    · rw [upd_ne hb] at e ⊢; exact R.sub _ _ e
  · rcases R.sl i s e with z | ⟨v, ev, ok⟩
    · exact .inl z
    · refine .inr ⟨v, ev, ?_⟩
      cases s with
      | no => trivial
      | dt d => exact Dd.mono sG d v ok
      | bag => exact ok
      | cnt => exact ok
      | xcp _ _ _ _ _ => first | exact ok | exact xcp_mono (by assumption) ok | exact xcp_mono k.gg ok
      | ol ds =>
        obtain ⟨a, ea, ga, h⟩ := ok
        exact ⟨a, ea, by rw [upd_ne (ne i a ⟨ea ▸ ev, _, e, rfl⟩)]; exact ga, h.up (fun o q => sH _ _ q) sG⟩
      | oK ks ds =>
        obtain ⟨a, ea, ga, h⟩ := ok
        exact ⟨a, ea, by rw [upd_ne (ne i a ⟨ea ▸ ev, _, e, rfl⟩)]; exact ga, h.up (fun o q => sH _ _ q) sG⟩
      | oT ks ds =>
        obtain ⟨a, ea, ga, h⟩ := ok
        exact ⟨a, ea, by rw [upd_ne (ne i a ⟨ea ▸ ev, _, e, rfl⟩)]; exact ga, h.up (fun o q => sH _ _ q) sG⟩
      | oI x0 C ks ds =>
        obtain ⟨a, ea, ga, h⟩ := ok
        exact ⟨a, ea, by rw [upd_ne (ne i a ⟨ea ▸ ev, _, e, rfl⟩)]; exact ga, h.up (fun o q => sH _ _ q) sG⟩
      | oL x0 ds =>
        obtain ⟨a, ea, ga, h⟩ := ok
        exact ⟨a, ea, by rw [upd_ne (ne i a ⟨ea ▸ ev, _, e, rfl⟩)]; exact ga, h.up (fun o q => sH _ _ q) sG⟩
  · obtain ⟨h1, h2, h3⟩ := R.own i a oa
    exact ⟨h1, by rw [upd_ne (ne i a oa)]; exact h2, h3⟩
  · exact (R.bag b c e).up (upd_ne (nb b c e)) sG (by
      have h2 := (R.bag b c e).gn
      rw [upd_ne (nb b c e)]; exact h2)
  · by_cases hb : a = p
    · exact .inr (hb ▸ R.new0 hp)
    · rw [upd_ne hb] at e; exact R.gn a x e
/-- a new object is laid, owned by nobody yet -/
theorem Rel.laidO (R : Rel K B H0 G0 H σ δ G) {p : Addr} {o : HO} (hp : H p = none) (so : SzO o) : Rel K B H0 G0 (upd H p o) σ δ G := by
  have sH : Same H (upd H p o) := fun b x e => by rw [upd_ne (ne_of_none e hp)]; exact e
  have nb : ∀ b c, (b, c) ∈ B → b ≠ p := fun b c e => by
    obtain ⟨_, h1⟩ := (R.bag b c e).there
    exact ne_of_none h1 hp
  refine ⟨R.sub.trans sH, R.g0, fun a x e nB => sH _ _ (R.ent a x e nB), R.len, fun i s e => ?_, R.sep, R.own, fun b c e => ?_, R.gn, R.sz.upd so⟩
  · rcases R.sl i s e with z | ⟨v, ev, ok⟩
    · exact .inl z
    · refine .inr ⟨v, ev, ?_⟩
      cases s with
      | no => trivial
      | dt d => exact ok
      | bag => exact ok
      | cnt => exact ok
      | xcp _ _ _ _ _ => first | exact ok | exact xcp_mono (by assumption) ok | exact xcp_mono k.gg ok
      | ol ds => obtain ⟨a, ea, ga, h⟩ := ok; exact ⟨a, ea, ga, h.up (fun o q => sH _ _ q) (Same.refl _)⟩
      | oK ks ds => obtain ⟨a, ea, ga, h⟩ := ok; exact ⟨a, ea, ga, h.up (fun o q => sH _ _ q) (Same.refl _)⟩
      | oT ks ds => obtain ⟨a, ea, ga, h⟩ := ok; exact ⟨a, ea, ga, h.up (fun o q => sH _ _ q) (Same.refl _)⟩
      | oI x0 C ks ds => obtain ⟨a, ea, ga, h⟩ := ok; exact ⟨a, ea, ga, h.up (fun o q => sH _ _ q) (Same.refl _)⟩
      | oL x0 ds => obtain ⟨a, ea, ga, h⟩ := ok; exact ⟨a, ea, ga, h.up (fun o q => sH _ _ q) (Same.refl _)⟩
  · exact (R.bag b c e).up (upd_ne (nb b c e)) (Same.refl _) (R.bag b c e).gn
theorem Rel.newOwn (R : Rel K B H0 G0 H σ δ G) {p : Addr} (hp : H p = none) : H0 p = none ∧ NotB B p ∧ ∀ i, ¬ Own σ δ i p := by
  have nB : NotB B p := fun c e => by
    obtain ⟨_, h1⟩ := (R.bag p c e).there
    rw [h1] at hp; cases hp
  refine ⟨?_, nB, fun i oa => ?_⟩
  · cases q : H0 p with
    | none => rfl
    | some o => rw [R.ent p o q nB] at hp; cases hp
  · obtain ⟨s, _, _, h⟩ := R.at oa
    obtain ⟨x, hx⟩ := h.there
    rw [hx] at hp; cases hp
end
end DL

set_option Elab.async false
set_option linter.all false
set_option maxRecDepth 100000
set_option maxHeartbeats 2000000
/-! DL2: expressions over data. -/
namespace DL
open PySem PySem.Spec PyProof.Rows L2
section
variable {K : PySem.W.Frag} {B : Bg} {H0 G0 H H' G G' : Hp} {σ : L2.St} {δ : List Sl}
/-! ### what is owned becomes shared -/
theorem Rel.share (R : Rel K B H0 G0 H σ δ G) {a : Addr} {o : HO} (ha : H a = some o) (ga : G a = none) (h0 : H0 a = none) (nb : NotB B a) (no : ∀ i, ¬ Own σ δ i a) :
    Rel K B H0 G0 H σ δ (upd G a o) ∧ Same G (upd G a o) := by
  have sG : Same G (upd G a o) := fun b x e => by rw [upd_ne (ne_of_none e ga)]; exact e
  refine ⟨⟨fun b x e => ?_, R.g0.trans sG, R.ent, R.len, fun i s e => ?_, R.sep, fun i b ob => ?_, fun b c e => ?_, fun b x e => ?_, R.sz⟩, sG⟩
  · by_cases hb : b = a
    · subst hb; rw [upd_same] at e; cases e; exact ha
    · rw [upd_ne hb] at e; exact R.sub _ _ e
  · rcases R.sl i s e with z | ⟨v, ev, ok⟩
    · exact .inl z
    · refine .inr ⟨v, ev, ?_⟩
      cases s with
      | no => trivial
      | dt d => exact Dd.mono sG d v ok
      | bag => exact ok
      | cnt => exact ok
      | xcp _ _ _ _ _ => first | exact ok | exact xcp_mono (by assumption) ok | exact xcp_mono k.gg ok
      | ol ds =>
        obtain ⟨b, eb, gb, h⟩ := ok
        have nba : b ≠ a := fun z => no i (z ▸ ⟨eb ▸ ev, _, e, rfl⟩)
        exact ⟨b, eb, by rw [upd_ne nba]; exact gb, h.up (fun o q => q) sG⟩
      | oK ks ds =>
        obtain ⟨b, eb, gb, h⟩ := ok
        have nba : b ≠ a := fun z => no i (z ▸ ⟨eb ▸ ev, _, e, rfl⟩)
        exact ⟨b, eb, by rw [upd_ne nba]; exact gb, h.up (fun o q => q) sG⟩
      | oT ks ds =>
        obtain ⟨b, eb, gb, h⟩ := ok
        have nba : b ≠ a := fun z => no i (z ▸ ⟨eb ▸ ev, _, e, rfl⟩)
        exact ⟨b, eb, by rw [upd_ne nba]; exact gb, h.up (fun o q => q) sG⟩
      | oI x0 C ks ds =>
        obtain ⟨b, eb, gb, h⟩ := ok
        have nba : b ≠ a := fun z => no i (z ▸ ⟨eb ▸ ev, _, e, rfl⟩)
        exact ⟨b, eb, by rw [upd_ne nba]; exact gb, h.up (fun o q => q) sG⟩
      | oL x0 ds =>
        obtain ⟨b, eb, gb, h⟩ := ok
        have nba : b ≠ a := fun z => no i (z ▸ ⟨eb ▸ ev, _, e, rfl⟩)
        exact ⟨b, eb, by rw [upd_ne nba]; exact gb, h.up (fun o q => q) sG⟩
  · obtain ⟨h1, h2, h3⟩ := R.own i b ob
    have nba : b ≠ a := fun z => by subst z; exact no i ob
    exact ⟨h1, by rw [upd_ne nba]; exact h2, h3⟩
  · have nba : b ≠ a := fun z => nb c (z ▸ e)
    exact (R.bag b c e).up rfl sG (by
      have h2 := (R.bag b c e).gn
      rw [upd_ne nba]; exact h2)
  · by_cases hb : b = a
    · exact .inr (hb ▸ h0)
    · rw [upd_ne hb] at e; exact R.gn b x e
/-- a slot is forgotten or told otherwise, where this is right -/
theorem Rel.reslot (R : Rel K B H0 G0 H σ δ G) {i : Nat} {s : Sl} (no : s.isOwn = false) (ok : s = .no ∨ ∃ v, σ[i]? = some (some v) ∧ ValOk K B H G v s) : Rel K B H0 G0 H σ (δ.set i s) G := by
  have back : ∀ j a, Own σ (δ.set i s) j a → Own σ δ j a := fun j a ⟨e, s', e2, io⟩ => by
    by_cases hj : i = j
    · subst hj
      by_cases hl : i < δ.length
      · rw [List.getElem?_set_self hl] at e2; cases e2; rw [no] at io; cases io
      · rw [List.getElem?_eq_none (by simpa using hl)] at e2; cases e2
    · rw [List.getElem?_set_ne hj] at e2; exact ⟨e, s', e2, io⟩
  refine ⟨R.sub, R.g0, R.ent, by rw [List.length_set]; exact R.len, fun j s' e => ?_, fun j k a h1 h2 => R.sep j k a (back j a h1) (back k a h2), fun j a h => R.own j a (back j a h), R.bag, R.gn, R.sz⟩
  by_cases hj : i = j
  · subst hj
    by_cases hl : i < δ.length
    · rw [List.getElem?_set_self hl] at e; cases e; exact ok
    · rw [List.getElem?_eq_none (by simpa using hl)] at e; cases e
  · rw [List.getElem?_set_ne hj] at e; exact R.sl j s' e
def fz : Sl → Option D
  | .dt d => some d
  | .ol ds => some (.lst ds)
  | .oK ks vs => some (.dK ks vs)
  | .oT ks vs => some (.dT ks vs)
  | .oI _ C ns vs => some (.ins C ns vs)
  | .oL _ ds => some (.lst ds)
  | .no => none
  | .bag => none
  | .cnt => none
  | .xcp _ _ _ _ _ => none
/-- the object of an owned thing, and its data once it is shared -/
theorem OwnAt.obj {a : Addr} {s : Sl} {d : D} (h : OwnAt K H G a s) (hf : fz s = some d) (ga : G a = none) : ∃ o, H a = some o ∧ Dd K (upd G a o) (.ref a) d := by
  have sG : ∀ o, Same G (upd G a o) := fun o b x e => by rw [upd_ne (ne_of_none e ga)]; exact e
  cases s <;> first | exact h.elim | skip
  · obtain ⟨vs, h1, h2⟩ := h; cases hf; exact ⟨_, h1, .lst upd_same (DdA.mono (sG _) _ _ h2)⟩
  · obtain ⟨vs, h0, h1, h2⟩ := h; cases hf; exact ⟨_, h1, .dK h0 upd_same (DdA.mono (sG _) _ _ h2)⟩
  · obtain ⟨vs, h0, h1, h2⟩ := h; cases hf; exact ⟨_, h1, .dT h0 upd_same (DdA.mono (sG _) _ _ h2)⟩
  · obtain ⟨_, dx, vs, h0, h1, h2⟩ := h; cases hf; exact ⟨_, h1, .ins h0 upd_same (DdA.mono (sG _) _ _ h2)⟩
  · obtain ⟨_, vs, h1, h2⟩ := h; cases hf; exact ⟨_, h1, .lst upd_same (DdA.mono (sG _) _ _ h2)⟩
theorem ValOk.own {v : V} {s : Sl} (h : ValOk K B H G v s) (io : s.isOwn = true) : ∃ a, v = .ref a ∧ G a = none ∧ OwnAt K H G a s := by
  cases s <;> first | exact h | cases io
/-- a result as shared data -/
theorem freeze (R : Rel K B H0 G0 H σ δ G) {v : V} {r : Sl} {d : D} (ok : ResOk K B H0 H σ δ G v r) (h : fz r = some d) : ∃ G', Rel K B H0 G0 H σ δ G' ∧ Same G G' ∧ Dd K G' v d := by
  obtain ⟨ok1, _, ok3⟩ := ok
  cases io : r.isOwn with
  | true =>
    obtain ⟨a, rfl, ga, oa⟩ := ok1.own io
    obtain ⟨h1, h2, h3⟩ := ok3 io a rfl
    obtain ⟨o, ho, hd⟩ := oa.obj h ga
    obtain ⟨R', sG⟩ := R.share ho ga h1 h2 h3
    exact ⟨_, R', sG, hd⟩
  | false =>
    cases r with
    | dt d' => cases h; exact ⟨G, R, Same.refl _, ok1⟩
    | no => cases h
    | bag => cases h
    | cnt => cases h
    | xcp _ _ _ _ _ => cases h
    | ol _ => cases io
    | oK _ _ => cases io
    | oT _ _ => cases io
    | oI _ _ _ _ => cases io
    | oL _ _ => cases io
/-- an owned slot as shared data -/
theorem Rel.freezeAt (R : Rel K B H0 G0 H σ δ G) {i : Nat} {s : Sl} {d : D} (hi : δ[i]? = some s) (io : s.isOwn = true) (hf : fz s = some d) :
    ∃ G' v, Rel K B H0 G0 H σ (δ.set i (.dt d)) G' ∧ Same G G' ∧ σ[i]? = some (some v) ∧ Dd K G' v d := by
  rcases R.sl i s hi with rfl | ⟨v, ev, ok⟩
  · cases io
  obtain ⟨a, rfl, ga, oa⟩ := ok.own io
  have own : Own σ δ i a := ⟨ev, s, hi, io⟩
  obtain ⟨h1, h2, h3⟩ := R.own i a own
  obtain ⟨o, ho, hd⟩ := oa.obj hf ga
  have R1 := R.reslot (i := i) (s := .no) rfl (.inl rfl)
  have no : ∀ j, ¬ Own σ (δ.set i .no) j a := fun j ⟨e, s', e2, io'⟩ => by
    by_cases hj : i = j
    · subst hj
      by_cases hl : i < δ.length
      · rw [List.getElem?_set_self hl] at e2; cases e2; cases io'
      · rw [List.getElem?_eq_none (by simpa using hl)] at e2; cases e2
    · rw [List.getElem?_set_ne hj] at e2
      exact hj (R.sep i j a own ⟨e, s', e2, io'⟩)
  obtain ⟨R2, sG⟩ := R1.share ho h2 h1 h3 no
  have R3 := R2.reslot (i := i) (s := .dt d) rfl (.inr ⟨.ref a, ev, hd⟩)
  rw [List.set_set] at R3
  exact ⟨_, _, R3, sG, ev, hd⟩
theorem resOk_dt {v : V} {d : D} (h : Dd K G v d) : ResOk K B H0 H σ δ G v (.dt d) := ⟨h, fun z => (nomatch z), fun z => (nomatch z)⟩
/-- a new object, owned by nobody: as a result -/
theorem resOk_new (R : Rel K B H0 G0 H σ δ G) {p : Addr} (hp : H p = none) {o : HO} {s : Sl} (io : s.isOwn = true) (oa : OwnAt K (upd H p o) G p s) : ResOk K B H0 (upd H p o) σ δ G (.ref p) s := by
  obtain ⟨h1, h2, h3⟩ := R.newOwn hp
  refine ⟨?_, (fun z => by rw [z] at io; cases io), fun _ a e => ?_⟩
  · cases s <;> first | exact ⟨p, rfl, R.sub.free hp, oa⟩ | cases io
  · cases e; exact ⟨h1, h2, h3⟩
/-- run an expression, go on with its data -/
theorem ev_data {t : TD} (m : MonoD t) {P : V → Hp → Prop} {kk : D → List Sl → Prop} (R : Rel K B H0 G0 H σ δ G) (h : t δ (fun r δ' => match fz r with | some d => kk d δ' | none => False))
    (next : ∀ d δ' v H' G', Rel K B H0 G0 H' σ δ' G' → Same G G' → Fra B H H' → Dd K G' v d → kk d δ' → P v H') : tyE K t σ H P := by
  refine ⟨B, H0, G0, δ, G, R, m _ _ _ h fun r δ' q v H' G' R' sG fr ok => ?_⟩
  cases e : fz r with
  | none => rw [e] at q; exact q.elim
  | some d =>
    rw [e] at q
    obtain ⟨G2, R2, s2, hd⟩ := freeze R' ok e
    exact next d δ' v H' G2 R2 (sG.trans s2) fr hd q
end
/-! ### names and constants -/
def tdVar (i : Nat) : TD := fun δ Q => match δ[i]? with
  | some (.dt d) => Q (.dt d) δ
  | some .bag => Q .bag δ
  | some .cnt => Q .cnt δ
  | some (.xcp _ _ _ _ _) => False
  | some (.ol ds) => Q (.dt (.lst ds)) (δ.set i (.dt (.lst ds)))
  | some (.oK ks vs) => Q (.dt (.dK ks vs)) (δ.set i (.dt (.dK ks vs)))
  | some (.oT ks vs) => Q (.dt (.dT ks vs)) (δ.set i (.dt (.dT ks vs)))
  | some (.oI _ C ns vs) => Q (.dt (.ins C ns vs)) (δ.set i (.dt (.ins C ns vs)))
  | some (.oL _ ds) => Q (.dt (.lst ds)) (δ.set i (.dt (.lst ds)))
  | some .no => False
  | none => False
def tdC (d : D) : TD := fun δ Q => Q (.dt d) δ
section
variable {X : Cx} {e a b : Expr} {pos : Pos}
theorem pd_var {i : Nat} (h : PE X e (tVar i)) : PD X e (tdVar i) := by
  refine ⟨PE.weak h fun σ H Q q => ?_, fun δ Q Q' h w => ?_⟩
  · obtain ⟨B, H0, G0, δ, G, R, q⟩ := q
    unfold tdVar at q
    cases e : δ[i]? with
    | none => rw [e] at q; exact q.elim
    | some s =>
      rw [e] at q
      cases s with
      | no => exact q.elim
      | dt d =>
        rcases R.sl i _ e with z | ⟨v, ev, ok⟩
        · cases z
        · exact ⟨v, ev, q v H G R (Same.refl _) (Fra.refl _ _) (resOk_dt ok)⟩
      | bag =>
        rcases R.sl i _ e with z | ⟨v, ev, ok⟩
        · cases z
        · exact ⟨v, ev, q v H G R (Same.refl _) (Fra.refl _ _) ⟨ok, fun z => (nomatch z), fun z => (nomatch z)⟩⟩
      | xcp _ _ _ _ _ => exact q.elim
      | cnt =>
        rcases R.sl i _ e with z | ⟨v, ev, ok⟩
        · cases z
        · exact ⟨v, ev, q v H G R (Same.refl _) (Fra.refl _ _) ⟨ok, fun z => (nomatch z), fun z => (nomatch z)⟩⟩
      | ol ds =>
        obtain ⟨G', v, R', sG, ev, hd⟩ := R.freezeAt e rfl rfl
        exact ⟨v, ev, q v H G' R' sG (Fra.refl _ _) (resOk_dt hd)⟩
      | oK ks ds =>
        obtain ⟨G', v, R', sG, ev, hd⟩ := R.freezeAt e rfl rfl
        exact ⟨v, ev, q v H G' R' sG (Fra.refl _ _) (resOk_dt hd)⟩
      | oT ks ds =>
        obtain ⟨G', v, R', sG, ev, hd⟩ := R.freezeAt e rfl rfl
        exact ⟨v, ev, q v H G' R' sG (Fra.refl _ _) (resOk_dt hd)⟩
      | oI x0 C ks ds =>
        obtain ⟨G', v, R', sG, ev, hd⟩ := R.freezeAt e rfl rfl
        exact ⟨v, ev, q v H G' R' sG (Fra.refl _ _) (resOk_dt hd)⟩
      | oL x0 ds =>
        obtain ⟨G', v, R', sG, ev, hd⟩ := R.freezeAt e rfl rfl
        exact ⟨v, ev, q v H G' R' sG (Fra.refl _ _) (resOk_dt hd)⟩
  · unfold tdVar at h ⊢
    split at h <;> first | exact h.elim | exact w _ _ h
theorem pd_c {v : V} {d : D} (h : PE X e (tC v)) (hd : ∀ G, Dd X.K G v d) : PD X e (tdC d) :=
  ⟨PE.weak h fun σ H Q ⟨B, H0, G0, δ, G, R, q⟩ => q v H G R (Same.refl _) (Fra.refl _ _) (resOk_dt (hd G)), fun _ _ _ h w => w _ _ h⟩
/-! ### operators -/
abbrev FD2 := D → D → List Sl → QD → Prop
def td2 (f : FD2) (ta tb : TD) : TD := fun δ Q => ta δ fun r δ1 => match fz r with
  | none => False
  | some d => tb δ1 fun r2 δ2 => match fz r2 with
    | none => False
    | some e => f d e δ2 Q
def MonoF2 (f : FD2) : Prop := ∀ d e δ (Q Q' : QD), f d e δ Q → (∀ r δ', Q r δ' → Q' r δ') → f d e δ Q'
/-- what is wanted behind a step -/
def Aft (K : PySem.W.Frag) (B : Bg) (H0 G0 H : Hp) (σ : L2.St) (G : Hp) (Q : VK) : QD := fun r δ' => ∀ v H' G', Rel K B H0 G0 H' σ δ' G' → Same G G' → Fra B H H' → ResOk K B H0 H' σ δ' G' v r → Q v H'
/-- a HandS rule by values serves a rule by data -/
def OpS (K : PySem.W.Frag) (r : R2) (f : FD2) : Prop := ∀ (B : Bg) (H0 G0 H : Hp) (σ : L2.St) (δ : List Sl) (G : Hp) (x y : V) (d e : D) (Q : VK),
  Rel K B H0 G0 H σ δ G → Dd K G x d → Dd K G y e → f d e δ (Aft K B H0 G0 H σ G Q) → r x y H Q
theorem aft_step {K : PySem.W.Frag} {B : Bg} {H0 G0 H H1 : Hp} {σ : L2.St} {G G1 : Hp} {Q : VK} (sG : Same G G1) (fr : Fra B H H1) : ∀ r δ', Aft K B H0 G0 H σ G Q r δ' → Aft K B H0 G0 H1 σ G1 Q r δ' :=
  fun r δ' q v H' G' R' s' f' ok => q v H' G' R' (sG.trans s') (fr.trans f') ok
theorem td2_run {K : PySem.W.Frag} {r : R2} {f : FD2} {ta tb : TD} (ma : MonoD ta) (mb : MonoD tb) (mf : MonoF2 f) (o : OpS K r f) : ∀ σ H Q, tyE K (td2 f ta tb) σ H Q → tOp r (tyE K ta) (tyE K tb) σ H Q := by
  intro σ H Q ⟨B, H0, G0, δ, G, R, q⟩
  refine ev_data ma (kk := fun d δ1 => tb δ1 fun r2 δ2 => match fz r2 with | some e => f d e δ2 (Aft K B H0 G0 H σ G Q) | none => False) R (ma _ _ _ q fun r δ1 h => ?_) fun d δ1 v H1 G1 R1 s1 f1 hd h => ?_
  · cases e : fz r with
    | none => rw [e] at h; exact h
    | some d =>
      rw [e] at h
      refine mb _ _ _ h fun r2 δ2 h2 => ?_
      cases e2 : fz r2 with
      | none => rw [e2] at h2; exact h2
      | some e' => rw [e2] at h2; exact h2
  · refine ev_data mb (kk := fun e δ2 => f d e δ2 (Aft K B H0 G0 H σ G Q)) R1 h fun e δ2 w H2 G2 R2 s2 f2 he h2 => ?_
    exact o B H0 G0 H2 σ δ2 G2 v w d e Q R2 (Dd.mono s2 _ _ hd) he (mf _ _ _ _ _ h2 (aft_step (s1.trans s2) (f1.trans f2)))
theorem td2_mono {f : FD2} {ta tb : TD} (ma : MonoD ta) (mb : MonoD tb) (mf : MonoF2 f) : MonoD (td2 f ta tb) := fun δ Q Q' h w => ma _ _ _ h fun r δ1 h1 => by
  cases e : fz r with
  | none => rw [e] at h1; exact h1
  | some d =>
    rw [e] at h1
    refine mb _ _ _ h1 fun r2 δ2 h2 => ?_
    cases e2 : fz r2 with
    | none => rw [e2] at h2; exact h2
    | some e' => rw [e2] at h2; exact mf _ _ _ _ _ h2 w
/-- a rule of HandS with the operands' readings open -/
theorem pd_bin {ta tb : TD} {r : R2} {f : FD2} (ha : PD X a ta) (hb : PD X b tb) (mf : MonoF2 f) (o : OpS X.K r f) (rule : PE X e (tOp r (tyE X.K ta) (tyE X.K tb))) : PD X e (td2 f ta tb) :=
  ⟨PE.weak rule (td2_run ha.mono hb.mono mf o), td2_mono ha.mono hb.mono mf⟩
theorem pd_op {op : Operator} {ta tb : TD} {r : R2} {f : FD2} (ho : OpR X (binaryOp op) r) (mf : MonoF2 f) (o : OpS X.K r f) (ha : PD X a ta) (hb : PD X b tb) : PD X (.BinOp a op b pos) (td2 f ta tb) :=
  pd_bin ha hb mf o (pe_op ho ha.pe hb.pe)
theorem pd_cmp {op : CmpOp} {ta tb : TD} {r : R2} {f : FD2} (ho : OpR X (compareOp op) r) (mf : MonoF2 f) (o : OpS X.K r f) (ha : PD X a ta) (hb : PD X b tb) (hm : behindInMarks op b = false) : PD X (.Compare a [op] [b] pos) (td2 f ta tb) :=
  pd_bin ha hb mf o (pe_cmpR ho ha.pe hb.pe hm)
theorem opR_or {op : Value → Value → Sem Value} {r1 r2 : R2} (h1 : OpR X op r1) (h2 : OpR X op r2) : OpR X op (fun x y H Q => r1 x y H Q ∨ r2 x y H Q) := by
  intro pins s σ H x y v u Q I rx ry h
  rcases h with h | h
  · exact h1 pins s σ H x y v u Q I rx ry h
  · exact h2 pins s σ H x y v u Q I rx ry h
end
/-- both ints -/
def fI (g : Int → Int → List Sl → QD → Prop) : FD2 := fun d e δ Q => match d, e with
  | .int i, .int j => g i j δ Q
  | _, _ => False
end DL

set_option Elab.async false
set_option linter.all false
set_option maxRecDepth 100000
set_option maxHeartbeats 2000000
/-! DL3: the operators over data; data as the library's PyData. -/
namespace DL
open PySem PySem.Spec PyProof.Rows L2
/-! ### data as PyData -/
def keyPy : Key → PyData
  | .inl i => .int i
  | .inr x => .str x
mutual
def py : D → PyData
  | .non => .none
  | .bl b => .bool b
  | .int i => .int i
  | .str x => .str x
  | .lst xs => .list (pyA xs)
  | .tup xs => .tuple (pyA xs)
  | .dK ks vs => .dict ((ks.map keyPy).zip (pyA vs))
  | .dT ks vs => .dict ((ks.map fun k => .tuple (k.map keyPy)).zip (pyA vs))
  | .ins _ _ _ => .dict []
def pyA : List D → List PyData
  | [] => []
  | x :: xs => py x :: pyA xs
end
theorem pyA_map : ∀ xs : List D, pyA xs = xs.map py
  | [] => by rw [pyA]; rfl
  | x :: xs => by rw [pyA, pyA_map xs]; rfl
section
variable {K : PySem.W.Frag} {G H : Hp}
mutual
theorem Dd.dp (e : Same G H) : ∀ (d : D) (v : V), (py d).canLay0 = true → Dd K G v d → Dp K H v (py d)
  | .non, _, _, h => by cases h; exact .non
  | .bl b, _, _, h => by cases h; exact .bl b
  | .int i, _, _, h => by cases h; exact .int i
  | .str x, _, _, h => by cases h; exact .str x
  | .lst ds, _, c, h => by cases h with | lst h1 h2 => exact .lst (SqL.of (e _ _ h1)) (DdA.dp e ds _ c h2)
  | .tup ds, _, c, h => by cases h with | tup h1 h2 => exact .tup (sameT e h1) (DdA.dp e ds _ c h2)
  | .dK _ _, _, c, _ => by cases c
  | .dT _ _, _, c, _ => by cases c
  | .ins _ _ _, _, c, _ => by cases c
theorem DdA.dp (e : Same G H) : ∀ (ds : List D) (vs : List V), PyData.canLayAll0 (pyA ds) = true → DdA K G vs ds → DpAll K H vs (pyA ds)
  | [], _, _, h => by cases h; exact .nil
  | d :: ds, _, c, h => by
    cases h with
    | cons h1 h2 =>
      rw [pyA, PyData.canLayAll0, Bool.and_eq_true] at c
      exact .cons (Dd.dp e d _ c.1 h1) (DdA.dp e ds _ c.2 h2)
end
end
theorem shaped_lay {d : PyData} (h : SeqAt.shaped d = true) : d.canLay0 = true := by
  unfold SeqAt.shaped at h
  rw [Bool.and_eq_true] at h
  exact h.1
/-! ### int operators -/
section
variable {K : PySem.W.Frag}
theorem mono_fI {g : Int → Int → List Sl → QD → Prop} (h : ∀ i j δ (Q Q' : QD), g i j δ Q → (∀ r δ', Q r δ' → Q' r δ') → g i j δ Q') : MonoF2 (fI g) := fun d e δ Q Q' q w => by
  unfold fI at q ⊢
  split at q
  · exact h _ _ _ _ _ q w
  · exact q
/-- the end of a step that changes nothing and gives a scalar -/
theorem aft_here {B : Bg} {H0 G0 H : Hp} {σ : L2.St} {δ : List Sl} {G : Hp} {Q : VK} {v : V} {d : D} (R : Rel K B H0 G0 H σ δ G) (hd : Dd K G v d) (q : Aft K B H0 G0 H σ G Q (.dt d) δ) : Q v H :=
  q v H G R (Same.refl _) (Fra.refl _ _) (resOk_dt hd)
/-- .. that lays a shared object -/
theorem aft_laid {B : Bg} {H0 G0 H : Hp} {σ : L2.St} {δ : List Sl} {G : Hp} {Q : VK} {p : Addr} {o : HO} {d : D} (R : Rel K B H0 G0 H σ δ G) (hp : H p = none) (so : SzO o) (hd : Dd K (upd G p o) (.ref p) d) (q : Aft K B H0 G0 H σ G Q (.dt d) δ) : Q (.ref p) (upd H p o) := by
  obtain ⟨R', sG⟩ := R.laidG hp so
  exact q _ _ _ R' sG (Fra.upd hp) (resOk_dt hd)
/-- .. that lays an object that is nobody's -/
theorem aft_own {B : Bg} {H0 G0 H : Hp} {σ : L2.St} {δ : List Sl} {G : Hp} {Q : VK} {p : Addr} {o : HO} {s : Sl} (R : Rel K B H0 G0 H σ δ G) (hp : H p = none) (so : SzO o) (io : s.isOwn = true) (oa : OwnAt K (upd H p o) G p s) (q : Aft K B H0 G0 H σ G Q s δ) : Q (.ref p) (upd H p o) :=
  q _ _ _ (R.laidO hp so) (Same.refl _) (Fra.upd hp) (resOk_new R hp io oa)
theorem opS_I {C : Int → Int → Prop} {g : Int → Int → V} {gd : Int → Int → D} (hd : ∀ i j G, Dd K G (g i j) (gd i j)) : OpS K (rI C g) (fI fun i j δ Q => C i j ∧ Q (.dt (gd i j)) δ) := by
  intro B H0 G0 H σ δ G x y d e Q R hx hy q
  unfold fI at q
  split at q
  · cases hx; cases hy
    exact ⟨_, _, rfl, rfl, q.1, aft_here R (hd _ _ _) q.2⟩
  · exact q.elim
theorem opS_I0 {g : Int → Int → V} {gd : Int → Int → D} (hd : ∀ i j G, Dd K G (g i j) (gd i j)) : OpS K (rI0 g) (fI fun i j δ Q => Q (.dt (gd i j)) δ) := by
  intro B H0 G0 H σ δ G x y d e Q R hx hy q
  unfold fI at q
  split at q
  · cases hx; cases hy
    exact ⟨_, _, rfl, rfl, aft_here R (hd _ _ _) q⟩
  · exact q.elim
theorem le_app {xs ys : List V} (z : xs.length + ys.length ≤ sizeLine) : (xs ++ ys).length ≤ sizeLine := by
  rw [List.length_append]; exact z
theorem le_rep {xs : List V} {k : Nat} (z : xs.length * k ≤ sizeLine) : (List.replicate k xs).flatten.length ≤ sizeLine := by
  simp only [List.length_flatten, List.map_replicate, List.sum_replicate_nat]
  rw [Nat.mul_comm]; exact z
/-! ### + -/
def fAdd : FD2 := fun d e δ Q => match d, e with
  | .int i, .int j => Q (.dt (.int (i + j))) δ
  | .str x, .str y => x.length + y.length ≤ sizeLine ∧ Q (.dt (.str (x ++ y))) δ
  | .lst xs, .lst ys => xs.length + ys.length ≤ sizeLine ∧ Q (.ol (xs ++ ys)) δ
  | .tup xs, .tup ys => xs.length + ys.length ≤ sizeLine ∧ Q (.dt (.tup (xs ++ ys))) δ
  | _, _ => False
theorem mono_fAdd : MonoF2 fAdd := fun d e δ Q Q' q w => by
  unfold fAdd at q ⊢
  split at q <;> first | exact w _ _ q | exact ⟨q.1, w _ _ q.2⟩ | exact q
abbrev rAddD (K : PySem.W.Frag) : R2 := fun x y H Q => (rI0 (fun i j => .int (i + j)) x y H Q ∨ (∃ i j, x = .str i ∧ y = .str j ∧ i.length + j.length ≤ sizeLine ∧ Q (.str (i ++ j)) H)) ∨ (rCat x y H Q ∨ rCatA K x y H Q)
theorem opR_addD {X : Cx} : OpR X (binaryOp .Add) (rAddD X.K) := opR_or (opR_or op_add op_add_str) (opR_or op_cat op_catA)
theorem opS_add : OpS K (rAddD K) fAdd := by
  intro B H0 G0 H σ δ G x y d e Q R hx hy q
  unfold fAdd at q
  split at q
  · cases hx; cases hy
    exact .inl (.inl ⟨_, _, rfl, rfl, aft_here R (.int _) q⟩)
  · cases hx; cases hy
    exact .inl (.inr ⟨_, _, rfl, rfl, q.1, aft_here R (.str _) q.2⟩)
  · cases hx with
    | lst h1 h2 =>
      cases hy with
      | lst h3 h4 =>
        have z := q.1
        rw [← h2.len, ← h4.len] at z
        refine .inr (.inl ⟨_, _, _, _, rfl, rfl, R.sub _ _ h1, R.sub _ _ h3, z, fun p hp => ?_⟩)
        exact aft_own (s := .ol _) R hp (le_app z) rfl ⟨_, upd_same, h2.append h4⟩ q.2
  · cases hx with
    | @tup a xs ds h1 h2 =>
      cases hy with
      | @tup b ys es h3 h4 =>
        have z := q.1
        rw [← h2.len, ← h4.len] at z
        refine .inr (.inr ⟨a, b, xs, ys, rfl, rfl, sameT R.sub h1, sameT R.sub h3, z, fun e => ?_, fun _ e => ?_, fun _ _ p hp => ?_⟩)
        · subst e
          cases h2
          exact aft_here R (.tup h3 h4) q.2
        · subst e
          cases h4
          rw [List.append_nil] at q
          exact aft_here R (.tup h1 h2) q.2
        · have gp := R.sub.free hp
          have sG : Same G (upd G p (.tup (xs ++ ys))) := fun b x e => by rw [upd_ne (ne_of_none e gp)]; exact e
          exact aft_laid R hp (le_app z) (.tup (.inl (.inl upd_same)) (DdA.mono sG _ _ (h2.append h4))) q.2
  · exact q.elim
/-! ### * of a list and an int -/
def fMul : FD2 := fun d e δ Q => match d, e with
  | .int i, .int j => CMul i j ∧ Q (.dt (.int (i * j))) δ
  | .lst xs, .int k => -(2 ^ 63) ≤ k ∧ k < 2 ^ 63 ∧ xs.length * k.toNat ≤ sizeLine ∧ Q (.ol (List.replicate k.toNat xs).flatten) δ
  | _, _ => False
theorem mono_fMul : MonoF2 fMul := fun d e δ Q Q' q w => by
  unfold fMul at q ⊢
  split at q
  · exact ⟨q.1, w _ _ q.2⟩
  · exact ⟨q.1, q.2.1, q.2.2.1, w _ _ q.2.2.2⟩
  · exact q
theorem DdA.rep {G : Hp} {vs : List V} {ds : List D} (h : DdA K G vs ds) : ∀ n : Nat, DdA K G (List.replicate n vs).flatten (List.replicate n ds).flatten
  | 0 => .nil
  | n + 1 => by rw [List.replicate_succ, List.replicate_succ, List.flatten_cons, List.flatten_cons]; exact h.append (DdA.rep h n)
abbrev rMulD : R2 := fun x y H Q => rI CMul (fun i j => .int (i * j)) x y H Q ∨ rRep x y H Q
theorem opR_mulD {X : Cx} : OpR X (binaryOp .Mult) rMulD := opR_or op_mul op_rep
theorem opS_mul : OpS K rMulD fMul := by
  intro B H0 G0 H σ δ G x y d e Q R hx hy q
  unfold fMul at q
  split at q
  · cases hx; cases hy
    exact .inl ⟨_, _, rfl, rfl, q.1, aft_here R (.int _) q.2⟩
  · cases hy
    cases hx with
    | lst h1 h2 =>
      obtain ⟨q1, q2, q3, q4⟩ := q
      rw [← h2.len] at q3
      exact .inr ⟨_, _, _, rfl, rfl, R.sub _ _ h1, q1, q2, q3, fun p hp => aft_own (s := .ol _) R hp (le_rep q3) rfl ⟨_, upd_same, h2.rep _⟩ q4⟩
  · exact q.elim
/-! ### == and != -/
def fEq : FD2 := fun d e δ Q => match d, e with
  | .str a, .str b => Q (.dt (.bl (decide (a = b)))) δ
  | d, e => SeqAt.shaped (py d) = true ∧ SeqAt.shaped (py e) = true ∧ Q (.dt (.bl (PyData.eqv (py d) (py e)))) δ
def fNe : FD2 := fun d e δ Q => match d, e with
  | .str a, .str b => Q (.dt (.bl (!decide (a = b)))) δ
  | d, e => SeqAt.shaped (py d) = true ∧ SeqAt.shaped (py e) = true ∧ Q (.dt (.bl (!PyData.eqv (py d) (py e)))) δ
theorem mono_fEq : MonoF2 fEq := fun d e δ Q Q' q w => by
  unfold fEq at q ⊢
  split at q
  · exact w _ _ q
  · exact ⟨q.1, q.2.1, w _ _ q.2.2⟩
theorem mono_fNe : MonoF2 fNe := fun d e δ Q Q' q w => by
  unfold fNe at q ⊢
  split at q
  · exact w _ _ q
  · exact ⟨q.1, q.2.1, w _ _ q.2.2⟩
abbrev rEqX (K : PySem.W.Frag) : R2 := fun x y H Q => rEq x y H Q ∨ rEqD K x y H Q
abbrev rNeX (K : PySem.W.Frag) : R2 := fun x y H Q => rNe x y H Q ∨ rNeD K x y H Q
theorem v_str (a b : Str) : decide ((V.str a) = V.str b) = decide (a = b) := by
  by_cases h : a = b
  · subst h; rw [decide_eq_true rfl, decide_eq_true rfl]
  · rw [decide_eq_false h, decide_eq_false fun z => h (V.str.inj z)]
theorem opS_eq : OpS K (rEqX K) fEq := by
  intro B H0 G0 H σ δ G x y d e Q R hx hy q
  unfold fEq at q
  split at q
  · cases hx; cases hy
    exact .inl ⟨rfl, by rw [v_str]; exact aft_here R (.bl _) q⟩
  · exact .inr ⟨_, _, Dd.dp R.sub d x (shaped_lay q.1) hx, Dd.dp R.sub e y (shaped_lay q.2.1) hy, q.1, q.2.1, aft_here R (.bl _) q.2.2⟩
theorem opS_ne : OpS K (rNeX K) fNe := by
  intro B H0 G0 H σ δ G x y d e Q R hx hy q
  unfold fNe at q
  split at q
  · cases hx; cases hy
    exact .inl ⟨rfl, by rw [v_str]; exact aft_here R (.bl _) q⟩
  · exact .inr ⟨_, _, Dd.dp R.sub d x (shaped_lay q.1) hx, Dd.dp R.sub e y (shaped_lay q.2.1) hy, q.1, q.2.1, aft_here R (.bl _) q.2.2⟩
/-! ### is None -/
def isNon : D → Bool
  | .non => true
  | _ => false
theorem isNon_dec {G : Hp} {v : V} {d : D} (h : Dd K G v d) : decide (v = .non) = isNon d := by
  cases h <;> rfl
def fIsN : FD2 := fun d e δ Q => match e with
  | .non => Q (.dt (.bl (isNon d))) δ
  | _ => False
def fNotN : FD2 := fun d e δ Q => match e with
  | .non => Q (.dt (.bl (!isNon d))) δ
  | _ => False
theorem mono_fIsN : MonoF2 fIsN := fun d e δ Q Q' q w => by
  unfold fIsN at q ⊢
  split at q <;> first | exact w _ _ q | exact q
theorem mono_fNotN : MonoF2 fNotN := fun d e δ Q Q' q w => by
  unfold fNotN at q ⊢
  split at q <;> first | exact w _ _ q | exact q
theorem opS_isN : OpS K (fun x y H Q => y = .non ∧ Q (.bl (decide (x = .non))) H) fIsN := by
  intro B H0 G0 H σ δ G x y d e Q R hx hy q
  unfold fIsN at q
  split at q
  · cases hy
    exact ⟨rfl, by rw [isNon_dec hx]; exact aft_here R (.bl _) q⟩
  · exact q.elim
theorem opS_notN : OpS K (fun x y H Q => y = .non ∧ Q (.bl (!decide (x = .non))) H) fNotN := by
  intro B H0 G0 H σ δ G x y d e Q R hx hy q
  unfold fNotN at q
  split at q
  · cases hy
    exact ⟨rfl, by rw [isNon_dec hx]; exact aft_here R (.bl _) q⟩
  · exact q.elim
/-! ### in: a flat thing in a row of flat things -/
def toV : D → Option V
  | .non => some .non
  | .bl b => some (.bl b)
  | .int i => some (.int i)
  | .str x => some (.str x)
  | _ => none
def toVs : List D → Option (List V)
  | [] => some []
  | d :: ds => match toV d, toVs ds with
    | some v, some vs => some (v :: vs)
    | _, _ => none
theorem toV_ok {G : Hp} {v w : V} {d : D} (h : Dd K G v d) (e : toV d = some w) : v = w ∧ flatV v = true := by
  cases h <;> first | (cases e; exact ⟨rfl, rfl⟩) | cases e
theorem toVs_ok {G : Hp} : ∀ {vs ws : List V} {ds : List D}, DdA K G vs ds → toVs ds = some ws → vs = ws ∧ vs.all flatV = true
  | _, _, [], h, e => by cases h; cases e; exact ⟨rfl, rfl⟩
  | _, _, d :: ds, h, e => by
    cases h with
    | cons h1 h2 =>
      unfold toVs at e
      split at e
      · rename_i v vs e1 e2
        cases e
        obtain ⟨z1, z2⟩ := toV_ok h1 e1
        obtain ⟨z3, z4⟩ := toVs_ok h2 e2
        subst z1; subst z3
        exact ⟨rfl, by rw [List.all_cons, z2, z4]; rfl⟩
      · cases e
def seqOf : D → Option (List D)
  | .lst xs => some xs
  | .tup xs => some xs
  | _ => none
theorem seqOf_ok {B : Bg} {H0 G0 H : Hp} {σ : L2.St} {δ : List Sl} {G : Hp} (R : Rel K B H0 G0 H σ δ G) {v : V} {d : D} {xs : List D} (h : Dd K G v d) (e : seqOf d = some xs) : ∃ a vs, v = .ref a ∧ (SqL K H a vs ∨ SqT K H a vs) ∧ DdA K G vs xs := by
  cases h <;> first | cases e | skip
  · rename_i a vs h1 h2; exact ⟨a, vs, rfl, .inl (SqL.of (R.sub _ _ h1)), h2⟩
  · rename_i a vs h1 h2; exact ⟨a, vs, rfl, .inr (sameT R.sub h1), h2⟩
def fIn (neg : Bool) : FD2 := fun d e δ Q => match toV d, (seqOf e).bind toVs with
  | some v, some vs => Q (.dt (.bl (if neg then !inV v vs else inV v vs))) δ
  | _, _ => False
theorem mono_fIn {neg : Bool} : MonoF2 (fIn neg) := fun d e δ Q Q' q w => by
  unfold fIn at q ⊢
  split at q <;> first | exact w _ _ q | exact q
theorem opS_in {neg : Bool} : OpS K (rIn K neg) (fIn neg) := by
  intro B H0 G0 H σ δ G x y d e Q R hx hy q
  unfold fIn at q
  split at q
  · rename_i v vs e1 e2
    obtain ⟨xs, e3, e4⟩ := Option.bind_eq_some_iff.mp e2
    obtain ⟨a, ws, rfl, hq, hA⟩ := seqOf_ok R hy e3
    obtain ⟨z1, z2⟩ := toV_ok hx e1
    obtain ⟨z3, z4⟩ := toVs_ok hA e4
    subst z1; subst z3
    exact ⟨a, _, rfl, hq, z2, z4, aft_here R (.bl _) q⟩
  · exact q.elim
/-! ### subscripts by an int -/
def fIx : FD2 := fun d e δ Q => match e with
  | .int i => match d with
    | .lst xs => ∃ x, atI xs i = some x ∧ Q (.dt x) δ
    | .tup xs => ∃ x, atI xs i = some x ∧ Q (.dt x) δ
    | .str z => z.length ≤ sizeLine ∧ ∃ c, atI z.cps.toList i = some c ∧ Q (.dt (.str ⟨#[c]⟩)) δ
    | _ => False
  | _ => False
theorem mono_fIx : MonoF2 fIx := fun d e δ Q Q' q w => by
  unfold fIx at q ⊢
  split at q
  · split at q
    · obtain ⟨x, q1, q2⟩ := q; exact ⟨x, q1, w _ _ q2⟩
    · obtain ⟨x, q1, q2⟩ := q; exact ⟨x, q1, w _ _ q2⟩
    · obtain ⟨q0, x, q1, q2⟩ := q; exact ⟨q0, x, q1, w _ _ q2⟩
    · exact q
  · exact q
theorem DdA.atI {G : Hp} {vs : List V} {ds : List D} {i : Int} {d : D} (h : DdA K G vs ds) (e : L2.atI ds i = some d) : ∃ v, L2.atI vs i = some v ∧ Dd K G v d := by
  unfold L2.atI at e ⊢
  obtain ⟨j, e1, e2⟩ := Option.bind_eq_some_iff.mp e
  obtain ⟨v, e3, hv⟩ := h.get e2
  rw [h.len, e1]
  exact ⟨v, e3, hv⟩
theorem opS_ix : OpS K (rIx K) fIx := by
  intro B H0 G0 H σ δ G x y d e Q R hx hy q
  unfold fIx at q
  split at q
  · cases hy
    split at q
    · obtain ⟨z, e1, q⟩ := q
      cases hx with
      | lst h1 h2 =>
        obtain ⟨v, e2, hv⟩ := h2.atI e1
        exact .inl ⟨_, _, _, v, rfl, rfl, SqL.of (R.sub _ _ h1), e2, aft_here R hv q⟩
    · obtain ⟨z, e1, q⟩ := q
      cases hx with
      | tup h1 h2 =>
        obtain ⟨v, e2, hv⟩ := h2.atI e1
        exact .inr (.inl ⟨_, _, _, v, rfl, rfl, sameT R.sub h1, e2, aft_here R hv q⟩)
    · obtain ⟨q1, c, e1, q2⟩ := q
      cases hx
      exact .inr (.inr ⟨_, _, _, rfl, rfl, q1, e1, aft_here R (.str _) q2⟩)
    · exact q.elim
  · exact q.elim
end
/-! ### the rules -/
section
variable {X : Cx} {a b : Expr} {ta tb : TD} {pos : Pos}
theorem pd_add (ha : PD X a ta) (hb : PD X b tb) : PD X (.BinOp a .Add b pos) (td2 fAdd ta tb) := pd_op opR_addD mono_fAdd opS_add ha hb
theorem pd_mul (ha : PD X a ta) (hb : PD X b tb) : PD X (.BinOp a .Mult b pos) (td2 fMul ta tb) := pd_op opR_mulD mono_fMul opS_mul ha hb
def fSub : FD2 := fI fun i j δ Q => Q (.dt (.int (i - j))) δ
theorem pd_sub (ha : PD X a ta) (hb : PD X b tb) : PD X (.BinOp a .Sub b pos) (td2 fSub ta tb) := pd_op op_sub (mono_fI fun _ _ _ _ _ q w => w _ _ q) (opS_I0 fun _ _ _ => .int _) ha hb
def fMod : FD2 := fI fun i j δ Q => j ≠ 0 ∧ Q (.dt (.int (i.fmod j))) δ
theorem pd_mod (ha : PD X a ta) (hb : PD X b tb) : PD X (.BinOp a .Mod b pos) (td2 fMod ta tb) := pd_op op_modN (mono_fI fun _ _ _ _ _ q w => ⟨q.1, w _ _ q.2⟩) (opS_I fun _ _ _ => .int _) ha hb
def fDiv : FD2 := fI fun i j δ Q => CDivN i j ∧ Q (.dt (.int (i.fdiv j))) δ
theorem pd_div (ha : PD X a ta) (hb : PD X b tb) : PD X (.BinOp a .FloorDiv b pos) (td2 fDiv ta tb) := pd_op op_fdivN (mono_fI fun _ _ _ _ _ q w => ⟨q.1, w _ _ q.2⟩) (opS_I fun _ _ _ => .int _) ha hb
def fPow : FD2 := fI fun i j δ Q => CPow i j ∧ Q (.dt (.int (i ^ j.toNat))) δ
theorem pd_pow (ha : PD X a ta) (hb : PD X b tb) : PD X (.BinOp a .Pow b pos) (td2 fPow ta tb) := pd_op op_pow (mono_fI fun _ _ _ _ _ q w => ⟨q.1, w _ _ q.2⟩) (opS_I fun _ _ _ => .int _) ha hb
def fLt : FD2 := fI fun i j δ Q => Q (.dt (.bl (decide (i < j)))) δ
def fLe : FD2 := fI fun i j δ Q => Q (.dt (.bl (decide (i ≤ j)))) δ
def fGt : FD2 := fI fun i j δ Q => Q (.dt (.bl (decide (j < i)))) δ
def fGe : FD2 := fI fun i j δ Q => Q (.dt (.bl (decide (j ≤ i)))) δ
theorem mono_fLt : MonoF2 fLt := mono_fI fun _ _ _ _ _ q w => w _ _ q
theorem mono_fLe : MonoF2 fLe := mono_fI fun _ _ _ _ _ q w => w _ _ q
theorem mono_fGt : MonoF2 fGt := mono_fI fun _ _ _ _ _ q w => w _ _ q
theorem mono_fGe : MonoF2 fGe := mono_fI fun _ _ _ _ _ q w => w _ _ q
theorem pd_lt (ha : PD X a ta) (hb : PD X b tb) (hm : behindInMarks .Lt b = false := nomark _) : PD X (.Compare a [.Lt] [b] pos) (td2 fLt ta tb) := pd_cmp op_lt mono_fLt (opS_I0 fun _ _ _ => .bl _) ha hb hm
theorem pd_le (ha : PD X a ta) (hb : PD X b tb) (hm : behindInMarks .LtE b = false := nomark _) : PD X (.Compare a [.LtE] [b] pos) (td2 fLe ta tb) := pd_cmp op_le mono_fLe (opS_I0 fun _ _ _ => .bl _) ha hb hm
theorem pd_gt (ha : PD X a ta) (hb : PD X b tb) (hm : behindInMarks .Gt b = false := nomark _) : PD X (.Compare a [.Gt] [b] pos) (td2 fGt ta tb) := pd_cmp op_gt mono_fGt (opS_I0 fun _ _ _ => .bl _) ha hb hm
theorem pd_ge (ha : PD X a ta) (hb : PD X b tb) (hm : behindInMarks .GtE b = false := nomark _) : PD X (.Compare a [.GtE] [b] pos) (td2 fGe ta tb) := pd_cmp op_ge mono_fGe (opS_I0 fun _ _ _ => .bl _) ha hb hm
theorem pd_eq (hu : X.A.units + 64 < cLine) (ha : PD X a ta) (hb : PD X b tb) (hm : behindInMarks .Eq b = false := nomark _) : PD X (.Compare a [.Eq] [b] pos) (td2 fEq ta tb) := pd_cmp (opR_or op_eq (op_eqD hu)) mono_fEq opS_eq ha hb hm
theorem pd_ne (hu : X.A.units + 64 < cLine) (ha : PD X a ta) (hb : PD X b tb) (hm : behindInMarks .NotEq b = false := nomark _) : PD X (.Compare a [.NotEq] [b] pos) (td2 fNe ta tb) := pd_cmp (opR_or op_ne (op_neD hu)) mono_fNe opS_ne ha hb hm
theorem pd_isN (ha : PD X a ta) (hb : PD X b tb) (hm : behindInMarks .Is b = false := nomark _) : PD X (.Compare a [.Is] [b] pos) (td2 fIsN ta tb) := pd_cmp op_isN mono_fIsN opS_isN ha hb hm
theorem pd_notN (ha : PD X a ta) (hb : PD X b tb) (hm : behindInMarks .IsNot b = false := nomark _) : PD X (.Compare a [.IsNot] [b] pos) (td2 fNotN ta tb) := pd_cmp op_notN mono_fNotN opS_notN ha hb hm
theorem pd_in (ha : PD X a ta) (hb : PD X b tb) (hm : behindInMarks .In b = false := by rfl) : PD X (.Compare a [.In] [b] pos) (td2 (fIn false) ta tb) := pd_cmp op_in_seq mono_fIn opS_in ha hb hm
theorem pd_notIn (ha : PD X a ta) (hb : PD X b tb) (hm : behindInMarks .NotIn b = false := by rfl) : PD X (.Compare a [.NotIn] [b] pos) (td2 (fIn true) ta tb) := pd_cmp op_notIn_seq mono_fIn opS_in ha hb hm
theorem pd_ix (ha : PD X a ta) (hb : PD X b tb) (hs : PlainIx b) : PD X (.Subscript a b pos) (td2 fIx ta tb) := pd_bin ha hb mono_fIx opS_ix (pe_ix ix_seq ha.pe hb.pe hs)
end
end DL

set_option Elab.async false
set_option linter.all false
set_option maxRecDepth 100000
set_option maxHeartbeats 2000000
/-! DL4: tests, arguments, displays, calls, built-ins over data. -/
namespace DL
open PySem PySem.Spec PyProof.Rows L2
/-! ### tests -/
abbrev TDT := List Sl → (Bool → List Sl → Prop) → Prop
def MonoT (t : TDT) : Prop := ∀ δ (Q Q' : Bool → List Sl → Prop), t δ Q → (∀ b δ', Q b δ' → Q' b δ') → t δ Q'
def AftT (K : PySem.W.Frag) (B : Bg) (H0 G0 H : Hp) (σ : L2.St) (G : Hp) (Q : Bool → Hp → Prop) : Bool → List Sl → Prop := fun b δ' => ∀ H' G', Rel K B H0 G0 H' σ δ' G' → Same G G' → Fra B H H' → Q b H'
def tyT (K : PySem.W.Frag) (t : TDT) : TT := fun σ H Q => ∃ B H0 G0 δ G, Rel K B H0 G0 H σ δ G ∧ t δ (AftT K B H0 G0 H σ G Q)
structure PDT (X : Cx) (e : Expr) (t : TDT) : Prop where
  pt : PT X e (tyT X.K t)
  mono : MonoT t
structure PDW (X : Cx) (e : Expr) (t : TDT) : Prop where
  pw : PW X e (tyT X.K t)
  mono : MonoT t
theorem PW.weak {X : Cx} {e : Expr} {t t' : TT} (h : PW X e t) (w : ∀ σ H Q, t' σ H Q → t σ H Q) : PW X e t' := ⟨fun wh pins s σ H Q I q => h.run wh pins s σ H Q I (w σ H Q q)⟩
theorem aftT_step {K : PySem.W.Frag} {B : Bg} {H0 G0 H H1 : Hp} {σ : L2.St} {G G1 : Hp} {Q : Bool → Hp → Prop} (sG : Same G G1) (fr : Fra B H H1) : ∀ b δ', AftT K B H0 G0 H σ G Q b δ' → AftT K B H0 G0 H1 σ G1 Q b δ' :=
  fun b δ' q H' G' R' s' f' => q H' G' R' (sG.trans s') (fr.trans f')
/-- a data's truth -/
def truth : D → Option Bool
  | .non => some false
  | .bl b => some b
  | .int i => some (i != 0)
  | .lst xs => some (!xs.isEmpty)
  | .tup xs => some (!xs.isEmpty)
  | .dK ks _ => some (!ks.isEmpty)
  | _ => none
def tdTru (t : TD) : TDT := fun δ Q => t δ fun r δ' => match (fz r).bind truth with
  | some b => Q b δ'
  | none => False
def tdBool (t : TD) : TDT := fun δ Q => t δ fun r δ' => match r with
  | .dt (.bl b) => Q b δ'
  | _ => False
def tdNotT (t : TDT) : TDT := fun δ Q => t δ fun b δ' => Q (!b) δ'
def tdAndT (t u : TDT) : TDT := fun δ Q => t δ fun b δ' => if b = true then u δ' Q else Q false δ'
def tdOrT (t u : TDT) : TDT := fun δ Q => t δ fun b δ' => if b = true then Q true δ' else u δ' Q
theorem isEmpty_len {α β : Type} {xs : List α} {ys : List β} (h : xs.length = ys.length) : (!xs.isEmpty) = !ys.isEmpty := by
  cases xs <;> cases ys <;> first | rfl | simp at h
section
variable {X : Cx} {e a b c : Expr} {rest : List Expr} {pos : Pos} {ta tb tc : TD} {ua ub : TDT}
theorem pdt_bool (h : PD X e ta) (rule : PT X e (tB (tyE X.K ta))) : PDT X e (tdBool ta) := by
  refine ⟨PT.weak rule fun σ H Q ⟨B, H0, G0, δ, G, R, q⟩ => ⟨B, H0, G0, δ, G, R, h.mono _ _ _ q fun r δ' q v H' G' R' s' f' ok => ?_⟩, fun δ Q Q' q w => h.mono _ _ _ q fun r δ' q => ?_⟩
  · split at q
    · cases ok.1
      exact ⟨_, rfl, q H' G' R' s' f'⟩
    · exact q.elim
  · split at q
    · exact w _ _ q
    · exact q
theorem pdt_b (h : PD X e ta) (he : ∀ whole, isTrue e X.env whole = (do let v ← whole; standAt e.pos; holding [v] (truthy v)) := by intro _; rfl) : PDT X e (tdBool ta) := pdt_bool h (pt_val h.pe he)
theorem pdt_tru (h : PD X e ta) (he : ∀ whole, isTrue e X.env whole = (do let v ← whole; standAt e.pos; holding [v] (truthy v)) := by intro _; rfl) : PDT X e (tdTru ta) := by
  refine ⟨PT.weak (pt_truth h.pe he) fun σ H Q ⟨B, H0, G0, δ, G, R, q⟩ => ⟨B, H0, G0, δ, G, R, h.mono _ _ _ q fun r δ' q v H' G' R' s' f' ok => ?_⟩, fun δ Q Q' q w => h.mono _ _ _ q fun r δ' q => ?_⟩
  · split at q
    · rename_i k e1
      obtain ⟨d, e2, e3⟩ := Option.bind_eq_some_iff.mp e1
      obtain ⟨G2, R2, s2, hd⟩ := freeze R' ok e2
      refine ⟨k, ?_, q H' G2 R2 (s'.trans s2) f'⟩
      cases hd <;> first | (cases e3; rfl) | cases e3
      · rename_i h1 h2; exact .inl ⟨_, SqL.of (R2.sub _ _ h1), by rw [isEmpty_len h2.len]⟩
      · rename_i h1 h2; exact .inr (.inl ⟨_, sameT R2.sub h1, by rw [isEmpty_len h2.len]⟩)
      · rename_i ks xs ds h0 h1 h2; exact .inr (.inr ⟨_, R2.sub _ _ h1, by rw [isEmpty_len (ys := ks.zip xs) (by rw [List.length_zip, ← h0, Nat.min_self])]⟩)
    · exact q.elim
  · split at q
    · exact w _ _ q
    · exact q
/-- a comparison as a test -/
theorem pdt_cmp {ops : List CmpOp} {bs : List Expr} (h : PD X (.Compare a ops bs pos) ta) (rule : PT X (.Compare a ops bs pos) (tTest (tyE X.K ta))) : PDT X (.Compare a ops bs pos) (tdBool ta) := by
  refine ⟨PT.weak rule fun σ H Q ⟨B, H0, G0, δ, G, R, q⟩ => ⟨B, H0, G0, δ, G, R, h.mono _ _ _ q fun r δ' q v H' G' R' s' f' ok => ?_⟩, fun δ Q Q' q w => h.mono _ _ _ q fun r δ' q => ?_⟩
  · split at q
    · cases ok.1
      exact ⟨_, rfl, q H' G' R' s' f'⟩
    · exact q.elim
  · split at q
    · exact w _ _ q
    · exact q
theorem tT_weak {r : R2} {f : FD2} (ma : MonoD ta) (mb : MonoD tb) (mf : MonoF2 f) (o : OpS X.K r f) (h : PT X e (tTest (tOp r (tyE X.K ta) (tyE X.K tb)))) : PT X e (tTest (tyE X.K (td2 f ta tb))) :=
  PT.weak h fun σ H Q q => td2_run ma mb mf o σ H _ q
theorem pdt_of {op : CmpOp} {r : R2} {f : FD2} (ho : OpR X (compareOp op) r) (mf : MonoF2 f) (o : OpS X.K r f) (ha : PD X a ta) (hb : PD X b tb) (hm : behindInMarks op b = false) : PDT X (.Compare a [op] [b] pos) (tdBool (td2 f ta tb)) :=
  pdt_cmp (pd_cmp ho mf o ha hb hm) (tT_weak ha.mono hb.mono mf o (pt_cmpR ho ha.pe hb.pe hm))
theorem pdt_lt (ha : PD X a ta) (hb : PD X b tb) (hm : behindInMarks .Lt b = false := nomark _) : PDT X (.Compare a [.Lt] [b] pos) (tdBool (td2 fLt ta tb)) := pdt_of op_lt mono_fLt (opS_I0 fun _ _ _ => .bl _) ha hb hm
theorem pdt_le (ha : PD X a ta) (hb : PD X b tb) (hm : behindInMarks .LtE b = false := nomark _) : PDT X (.Compare a [.LtE] [b] pos) (tdBool (td2 fLe ta tb)) := pdt_of op_le mono_fLe (opS_I0 fun _ _ _ => .bl _) ha hb hm
theorem pdt_gt (ha : PD X a ta) (hb : PD X b tb) (hm : behindInMarks .Gt b = false := nomark _) : PDT X (.Compare a [.Gt] [b] pos) (tdBool (td2 fGt ta tb)) := pdt_of op_gt mono_fGt (opS_I0 fun _ _ _ => .bl _) ha hb hm
theorem pdt_ge (ha : PD X a ta) (hb : PD X b tb) (hm : behindInMarks .GtE b = false := nomark _) : PDT X (.Compare a [.GtE] [b] pos) (tdBool (td2 fGe ta tb)) := pdt_of op_ge mono_fGe (opS_I0 fun _ _ _ => .bl _) ha hb hm
theorem pdt_eq (hu : X.A.units + 64 < cLine) (ha : PD X a ta) (hb : PD X b tb) (hm : behindInMarks .Eq b = false := nomark _) : PDT X (.Compare a [.Eq] [b] pos) (tdBool (td2 fEq ta tb)) := pdt_of (opR_or op_eq (op_eqD hu)) mono_fEq opS_eq ha hb hm
theorem pdt_ne (hu : X.A.units + 64 < cLine) (ha : PD X a ta) (hb : PD X b tb) (hm : behindInMarks .NotEq b = false := nomark _) : PDT X (.Compare a [.NotEq] [b] pos) (tdBool (td2 fNe ta tb)) := pdt_of (opR_or op_ne (op_neD hu)) mono_fNe opS_ne ha hb hm
theorem pdt_isN (ha : PD X a ta) (hb : PD X b tb) (hm : behindInMarks .Is b = false := nomark _) : PDT X (.Compare a [.Is] [b] pos) (tdBool (td2 fIsN ta tb)) := pdt_of op_isN mono_fIsN opS_isN ha hb hm
theorem pdt_notN (ha : PD X a ta) (hb : PD X b tb) (hm : behindInMarks .IsNot b = false := nomark _) : PDT X (.Compare a [.IsNot] [b] pos) (tdBool (td2 fNotN ta tb)) := pdt_of op_notN mono_fNotN opS_notN ha hb hm
theorem pdt_in (ha : PD X a ta) (hb : PD X b tb) (hm : behindInMarks .In b = false := by rfl) : PDT X (.Compare a [.In] [b] pos) (tdBool (td2 (fIn false) ta tb)) := pdt_of op_in_seq mono_fIn opS_in ha hb hm
theorem pdt_notIn (ha : PD X a ta) (hb : PD X b tb) (hm : behindInMarks .NotIn b = false := by rfl) : PDT X (.Compare a [.NotIn] [b] pos) (tdBool (td2 (fIn true) ta tb)) := pdt_of op_notIn_seq mono_fIn opS_in ha hb hm
theorem pdt_not (h : PDT X a ua) : PDT X (.UnaryOp .Not a pos) (tdNotT ua) :=
  ⟨PT.weak (pt_not h.pt) fun σ H Q ⟨B, H0, G0, δ, G, R, q⟩ => ⟨B, H0, G0, δ, G, R, h.mono _ _ _ q fun b δ' q H' G' R' s' f' => q H' G' R' s' f'⟩, fun δ Q Q' q w => h.mono _ _ _ q fun b δ' q => w _ _ q⟩
theorem pdw_and1 (h : PDT X a ua) : PDW X (.BoolOp .And [a] pos) ua := ⟨pw_and1 h.pt, h.mono⟩
theorem pdw_or1 (h : PDT X a ua) : PDW X (.BoolOp .Or [a] pos) ua := ⟨pw_or1 h.pt, h.mono⟩
theorem pdw_and (h : PDT X a ua) (k : PDW X (.BoolOp .And (b :: rest) pos) ub) : PDW X (.BoolOp .And (a :: b :: rest) pos) (tdAndT ua ub) := by
  refine ⟨PW.weak (pw_and h.pt k.pw) fun σ H Q ⟨B, H0, G0, δ, G, R, q⟩ => ⟨B, H0, G0, δ, G, R, h.mono _ _ _ q fun z δ' q H' G' R' s' f' => ?_⟩, fun δ Q Q' q w => h.mono _ _ _ q fun z δ' q => ?_⟩
  · cases z with
    | true => exact ⟨B, H0, G0, δ', G', R', k.mono _ _ _ q (aftT_step s' f')⟩
    | false => exact q H' G' R' s' f'
  · cases z with
    | true => exact k.mono _ _ _ q w
    | false => exact w _ _ q
theorem pdw_or (h : PDT X a ua) (k : PDW X (.BoolOp .Or (b :: rest) pos) ub) : PDW X (.BoolOp .Or (a :: b :: rest) pos) (tdOrT ua ub) := by
  refine ⟨PW.weak (pw_or h.pt k.pw) fun σ H Q ⟨B, H0, G0, δ, G, R, q⟩ => ⟨B, H0, G0, δ, G, R, h.mono _ _ _ q fun z δ' q H' G' R' s' f' => ?_⟩, fun δ Q Q' q w => h.mono _ _ _ q fun z δ' q => ?_⟩
  · cases z with
    | false => exact ⟨B, H0, G0, δ', G', R', k.mono _ _ _ q (aftT_step s' f')⟩
    | true => exact q H' G' R' s' f'
  · cases z with
    | false => exact k.mono _ _ _ q w
    | true => exact w _ _ q
theorem PDW.t (h : PDW X e ua) : PDT X e ua := ⟨h.pw.pt, h.mono⟩
/-! ### and, or, not, if as values -/
def tdAnd (ta tb : TD) : TD := fun δ Q => ta δ fun r δ' => match r with
  | .dt (.bl c) => if c = true then tb δ' Q else Q (.dt (.bl false)) δ'
  | _ => False
def tdOr (ta tb : TD) : TD := fun δ Q => ta δ fun r δ' => match r with
  | .dt (.bl c) => if c = true then Q (.dt (.bl true)) δ' else tb δ' Q
  | _ => False
def tdNot (ta : TD) : TD := fun δ Q => ta δ fun r δ' => match r with
  | .dt (.bl c) => Q (.dt (.bl (!c))) δ'
  | _ => False
def tdIf (u : TDT) (ta tb : TD) : TD := fun δ Q => u δ fun c δ' => if c = true then ta δ' Q else tb δ' Q
theorem pd_one {op} (h : PD X a ta) : PD X (.BoolOp op [a] pos) ta := ⟨pe_one h.pe, h.mono⟩
theorem pd_and (h : PD X a ta) (k : PD X (.BoolOp .And (b :: rest) pos) tb) : PD X (.BoolOp .And (a :: b :: rest) pos) (tdAnd ta tb) := by
  refine ⟨PE.weak (pe_and h.pe k.pe) fun σ H Q ⟨B, H0, G0, δ, G, R, q⟩ => ⟨B, H0, G0, δ, G, R, h.mono _ _ _ q fun r δ' q v H' G' R' s' f' ok => ?_⟩, fun δ Q Q' q w => h.mono _ _ _ q fun r δ' q => ?_⟩
  · split at q
    · cases ok.1
      rename_i c
      refine ⟨c, rfl, ?_⟩
      cases c with
      | true => exact ⟨B, H0, G0, δ', G', R', k.mono _ _ _ q (aft_step s' f')⟩
      | false => exact q _ _ _ R' s' f' (resOk_dt (.bl _))
    · exact q.elim
  · split at q
    · rename_i c
      cases c with
      | true => exact k.mono _ _ _ q w
      | false => exact w _ _ q
    · exact q
theorem pd_or (h : PD X a ta) (k : PD X (.BoolOp .Or (b :: rest) pos) tb) : PD X (.BoolOp .Or (a :: b :: rest) pos) (tdOr ta tb) := by
  refine ⟨PE.weak (pe_or h.pe k.pe) fun σ H Q ⟨B, H0, G0, δ, G, R, q⟩ => ⟨B, H0, G0, δ, G, R, h.mono _ _ _ q fun r δ' q v H' G' R' s' f' ok => ?_⟩, fun δ Q Q' q w => h.mono _ _ _ q fun r δ' q => ?_⟩
  · split at q
    · cases ok.1
      rename_i c
      refine ⟨c, rfl, ?_⟩
      cases c with
      | false => exact ⟨B, H0, G0, δ', G', R', k.mono _ _ _ q (aft_step s' f')⟩
      | true => exact q _ _ _ R' s' f' (resOk_dt (.bl _))
    · exact q.elim
  · split at q
    · rename_i c
      cases c with
      | false => exact k.mono _ _ _ q w
      | true => exact w _ _ q
    · exact q
theorem pd_not (h : PD X a ta) : PD X (.UnaryOp .Not a pos) (tdNot ta) := by
  refine ⟨PE.weak (pe_not h.pe) fun σ H Q ⟨B, H0, G0, δ, G, R, q⟩ => ⟨B, H0, G0, δ, G, R, h.mono _ _ _ q fun r δ' q v H' G' R' s' f' ok => ?_⟩, fun δ Q Q' q w => h.mono _ _ _ q fun r δ' q => ?_⟩
  · split at q
    · cases ok.1
      exact ⟨_, rfl, q _ _ _ R' s' f' (resOk_dt (.bl _))⟩
    · exact q.elim
  · split at q
    · exact w _ _ q
    · exact q
theorem pd_if (h : PDT X c ua) (k : PD X a ta) (l : PD X b tb) : PD X (.IfExp c a b pos) (tdIf ua ta tb) := by
  refine ⟨PE.weak (pe_ifExp h.pt k.pe l.pe) fun σ H Q ⟨B, H0, G0, δ, G, R, q⟩ => ⟨B, H0, G0, δ, G, R, h.mono _ _ _ q fun z δ' q H' G' R' s' f' => ?_⟩, fun δ Q Q' q w => h.mono _ _ _ q fun z δ' q => ?_⟩
  · cases z with
    | true => exact ⟨B, H0, G0, δ', G', R', k.mono _ _ _ q (aft_step s' f')⟩
    | false => exact ⟨B, H0, G0, δ', G', R', l.mono _ _ _ q (aft_step s' f')⟩
  · cases z with
    | true => exact k.mono _ _ _ q w
    | false => exact l.mono _ _ _ q w
/-- - of an int -/
def tdNeg (ta : TD) : TD := fun δ Q => ta δ fun r δ' => match r with
  | .dt (.int i) => Q (.dt (.int (-i))) δ'
  | _ => False
theorem pd_neg (h : PD X a ta) : PD X (.UnaryOp .USub a pos) (tdNeg ta) := by
  refine ⟨PE.weak (pe_un un_neg h.pe) fun σ H Q ⟨B, H0, G0, δ, G, R, q⟩ => ⟨B, H0, G0, δ, G, R, h.mono _ _ _ q fun r δ' q v H' G' R' s' f' ok => ?_⟩, fun δ Q Q' q w => h.mono _ _ _ q fun r δ' q => ?_⟩
  · split at q
    · cases ok.1
      exact ⟨_, rfl, q _ _ _ R' s' f' (resOk_dt (.int _))⟩
    · exact q.elim
  · split at q
    · exact w _ _ q
    · exact q
/-- a < b < c -/
def tdChain (f g : FD2) (ta tb tc : TD) : TD := fun δ Q => ta δ fun r δ1 => match fz r with
  | none => False
  | some d => tb δ1 fun r2 δ2 => match fz r2 with
    | none => False
    | some e => f d e δ2 fun z δ3 => match z with
      | .dt (.bl k) => if k = true then tc δ3 fun r3 δ4 => match fz r3 with
          | none => False
          | some w => g e w δ4 Q
        else Q (.dt (.bl false)) δ3
      | _ => False
theorem chain_run {r r' : R2} {f g : FD2} {K : PySem.W.Frag} (ma : MonoD ta) (mb : MonoD tb) (mc : MonoD tc) (mf : MonoF2 f) (mg : MonoF2 g) (o : OpS K r f) (o' : OpS K r' g) : ∀ σ H Q, tyE K (tdChain f g ta tb tc) σ H Q → tChain r r' (tyE K ta) (tyE K tb) (tyE K tc) σ H Q := by
  intro σ H Q ⟨B, H0, G0, δ, G, R, q⟩
  refine ev_data ma (kk := fun d δ1 => tb δ1 fun r2 δ2 => match fz r2 with
    | none => False
    | some e => f d e δ2 fun z δ3 => match z with
      | .dt (.bl k) => if k = true then tc δ3 fun r3 δ4 => match fz r3 with
          | none => False
          | some w => g e w δ4 (Aft K B H0 G0 H σ G Q)
        else Aft K B H0 G0 H σ G Q (.dt (.bl false)) δ3
      | _ => False) R (ma _ _ _ q fun r δ1 h => ?_) fun d δ1 v H1 G1 R1 s1 f1 hd h => ?_
  · cases e : fz r with
    | none => rw [e] at h; exact h
    | some d => rw [e] at h; exact h
  · refine ev_data mb (kk := fun e δ2 => f d e δ2 fun z δ3 => match z with
      | .dt (.bl k) => if k = true then tc δ3 fun r3 δ4 => match fz r3 with
          | none => False
          | some w => g e w δ4 (Aft K B H0 G0 H σ G Q)
        else Aft K B H0 G0 H σ G Q (.dt (.bl false)) δ3
      | _ => False) R1 (mb _ _ _ h fun r δ1 h => ?_) fun e δ2 w H2 G2 R2 s2 f2 he h2 => ?_
    · cases e : fz r with
      | none => rw [e] at h; exact h
      | some d => rw [e] at h; exact h
    · refine o B H0 G0 H2 σ δ2 G2 v w d e _ R2 (Dd.mono s2 _ _ hd) he (mf _ _ _ _ _ h2 fun z δ3 h3 v3 H3 G3 R3 s3 f3 ok3 => ?_)
      split at h3
      · rename_i k
        cases ok3.1
        refine ⟨k, rfl, ?_⟩
        cases k with
        | false => exact h3 _ _ _ R3 ((s1.trans s2).trans s3) ((f1.trans f2).trans f3) (resOk_dt (.bl _))
        | true =>
          refine ev_data mc (kk := fun w δ4 => g e w δ4 (Aft K B H0 G0 H σ G Q)) R3 (mc _ _ _ h3 fun r δ1 h => ?_) fun y δ4 w4 H4 G4 R4 s4 f4 hy h4 => ?_
          · cases e : fz r with
            | none => rw [e] at h; exact h
            | some d => rw [e] at h; exact h
          · exact o' B H0 G0 H4 σ δ4 G4 w w4 e y Q R4 (Dd.mono (s3.trans s4) _ _ he) hy (mg _ _ _ _ _ h4 (aft_step (((s1.trans s2).trans s3).trans s4) (((f1.trans f2).trans f3).trans f4)))
      · exact h3.elim
theorem pd_chain {op op' : CmpOp} {r r' : R2} {f g : FD2} (ho : OpR X (compareOp op) r) (ho' : OpR X (compareOp op') r') (mf : MonoF2 f) (mg : MonoF2 g) (o : OpS X.K r f) (o' : OpS X.K r' g) (ha : PD X a ta) (hb : PD X b tb) (hc : PD X c tc)
    (hm : lastMarks [op, op'] [b, c] = false := by with_unfolding_all rfl) : PD X (.Compare a [op, op'] [b, c] pos) (tdChain f g ta tb tc) := by
  refine ⟨PE.weak (pe_chain ho ho' ha.pe hb.pe hc.pe hm) (chain_run ha.mono hb.mono hc.mono mf mg o o'), fun δ Q Q' q w => ?_⟩
  refine ha.mono _ _ _ q fun r δ1 h => ?_
  cases e : fz r with
  | none => rw [e] at h; exact h
  | some d =>
    rw [e] at h
    refine hb.mono _ _ _ h fun r2 δ2 h2 => ?_
    cases e2 : fz r2 with
    | none => rw [e2] at h2; exact h2
    | some e' =>
      rw [e2] at h2
      refine mf _ _ _ _ _ h2 fun z δ3 h3 => ?_
      split at h3
      · rename_i k
        cases k with
        | false => exact w _ _ h3
        | true =>
          refine hc.mono _ _ _ h3 fun r3 δ4 h4 => ?_
          cases e4 : fz r3 with
          | none => rw [e4] at h4; exact h4
          | some y => rw [e4] at h4; exact mg _ _ _ _ _ h4 w
      · exact h3
end
end DL

set_option Elab.async false
set_option linter.all false
set_option maxRecDepth 100000
set_option maxHeartbeats 2000000
/-! DL5: arguments, displays, calls of built-ins and of defs, slices over data. -/
namespace DL
open PySem PySem.Spec PyProof.Rows L2
/-! ### arguments -/
def ArgOk (K : PySem.W.Frag) (B : Bg) (G : Hp) (v : V) : Sl → Prop
  | .dt d => Dd K G v d
  | .bag => ∃ b c, (b, Cell.bag c) ∈ B ∧ v = .ref b
  | .cnt => ∃ b, (b, Cell.cnt) ∈ B ∧ v = .ref b
  | _ => False
def ArgsOk (K : PySem.W.Frag) (B : Bg) (G : Hp) : List V → List Sl → Prop
  | [], [] => True
  | v :: vs, r :: rs => ArgOk K B G v r ∧ ArgsOk K B G vs rs
  | _, _ => False
def az : Sl → Option Sl
  | .bag => some .bag
  | .cnt => some .cnt
  | s => (fz s).map .dt
section
variable {K : PySem.W.Frag} {B : Bg} {H0 G0 H H' G G' : Hp} {σ : L2.St} {δ : List Sl}
theorem ArgOk.mono (e : Same G G') {v : V} {r : Sl} (h : ArgOk K B G v r) : ArgOk K B G' v r := by
  cases r <;> first | exact Dd.mono e _ _ h | exact h
theorem ArgsOk.mono (e : Same G G') : ∀ {vs : List V} {rs : List Sl}, ArgsOk K B G vs rs → ArgsOk K B G' vs rs
  | [], [], _ => trivial
  | _ :: _, _ :: _, h => ⟨h.1.mono e, ArgsOk.mono e h.2⟩
  | [], _ :: _, h => h.elim
  | _ :: _, [], h => h.elim
theorem ArgsOk.len : ∀ {vs : List V} {rs : List Sl}, ArgsOk K B G vs rs → vs.length = rs.length
  | [], [], _ => rfl
  | _ :: _, _ :: _, h => by simp [ArgsOk.len h.2]
  | [], _ :: _, h => h.elim
  | _ :: _, [], h => h.elim
theorem freezeA (R : Rel K B H0 G0 H σ δ G) {v : V} {r r' : Sl} (ok : ResOk K B H0 H σ δ G v r) (h : az r = some r') : ∃ G', Rel K B H0 G0 H σ δ G' ∧ Same G G' ∧ ArgOk K B G' v r' := by
  cases r with
  | bag => cases h; exact ⟨G, R, Same.refl _, ok.1⟩
  | cnt => cases h; exact ⟨G, R, Same.refl _, ok.1⟩
  | xcp _ _ _ _ _ => cases h
  | no => cases h
  | dt d => cases h; exact ⟨G, R, Same.refl _, ok.1⟩
  | ol ds => cases h; exact freeze R ok rfl
  | oK ks ds => cases h; exact freeze R ok rfl
  | oT ks ds => cases h; exact freeze R ok rfl
  | oI x0 C ks ds => cases h; exact freeze R ok rfl
  | oL x0 ds => cases h; exact freeze R ok rfl
end
abbrev TDA := List Sl → (List Sl → List Sl → Prop) → Prop
def MonoA (t : TDA) : Prop := ∀ δ (Q Q' : List Sl → List Sl → Prop), t δ Q → (∀ r δ', Q r δ' → Q' r δ') → t δ Q'
def AftA (K : PySem.W.Frag) (B : Bg) (H0 G0 H : Hp) (σ : L2.St) (G : Hp) (Q : List V → Hp → Prop) : List Sl → List Sl → Prop := fun rs δ' => ∀ vs H' G', Rel K B H0 G0 H' σ δ' G' → Same G G' → Fra B H H' → ArgsOk K B G' vs rs → Q vs H'
def tyA (K : PySem.W.Frag) (t : TDA) : TA := fun σ H Q => ∃ B H0 G0 δ G, Rel K B H0 G0 H σ δ G ∧ t δ (AftA K B H0 G0 H σ G Q)
structure PDA (X : Cx) (es : List Expr) (t : TDA) : Prop where
  pa : PA X es (tyA X.K t)
  mono : MonoA t
theorem PA.weak {X : Cx} {es : List Expr} {t t' : TA} (h : PA X es t) (w : ∀ σ H Q, t' σ H Q → t σ H Q) : PA X es t' := ⟨fun pos pins s σ H Q I q => h.run pos pins s σ H Q I (w σ H Q q)⟩
def tdNil : TDA := fun δ Q => Q [] δ
def tdCons (ta : TD) (tr : TDA) : TDA := fun δ Q => ta δ fun r δ1 => match az r with
  | none => False
  | some r' => tr δ1 fun rs δ2 => Q (r' :: rs) δ2
section
variable {X : Cx} {e a b c : Expr} {es : List Expr} {pos p : Pos} {ta tb tc : TD} {u : TDA}
theorem pda_nil : PDA X [] tdNil := ⟨PA.weak pa_nil fun σ H Q ⟨B, H0, G0, δ, G, R, q⟩ => q [] H G R (Same.refl _) (Fra.refl _ _) trivial, fun _ _ _ q w => w _ _ q⟩
theorem pda_cons (h : PD X e ta) (k : PDA X es u) (hs : starEach (e :: es) X.env = (false, eval e X.env) :: starEach es X.env := by rfl) : PDA X (e :: es) (tdCons ta u) := by
  refine ⟨PA.weak (pa_cons h.pe k.pa hs) fun σ H Q ⟨B, H0, G0, δ, G, R, q⟩ => ⟨B, H0, G0, δ, G, R, h.mono _ _ _ q fun r δ1 q v H1 G1 R1 s1 f1 ok => ?_⟩, fun δ Q Q' q w => h.mono _ _ _ q fun r δ1 q => ?_⟩
  · cases ea : az r with
    | none => rw [ea] at q; exact q.elim
    | some r' =>
      rw [ea] at q
      obtain ⟨G2, R2, s2, ha⟩ := freezeA R1 ok ea
      exact ⟨B, H0, G0, δ1, G2, R2, k.mono _ _ _ q fun rs δ2 q vs H3 G3 R3 s3 f3 oks => q (v :: vs) H3 G3 R3 ((s1.trans s2).trans s3) (f1.trans f3) ⟨ha.mono s3, oks⟩⟩
  · cases ea : az r with
    | none => rw [ea] at q; exact q
    | some r' => rw [ea] at q; exact k.mono _ _ _ q fun rs δ2 q => w _ _ q
/-! ### displays -/
def datas : List Sl → Option (List D)
  | [] => some []
  | .dt d :: rs => match datas rs with
    | some ds => some (d :: ds)
    | none => none
  | _ :: _ => none
theorem datas_ok {K : PySem.W.Frag} {B : Bg} {G : Hp} : ∀ {vs : List V} {rs : List Sl} {ds : List D}, ArgsOk K B G vs rs → datas rs = some ds → DdA K G vs ds
  | [], [], _, _, e => by cases e; exact .nil
  | v :: vs, .dt d :: rs, _, h, e => by
    unfold datas at e
    split at e
    · rename_i ds' e'
      cases e
      exact .cons h.1 (datas_ok h.2 e')
    · cases e
  | _ :: _, .no :: _, _, h, _ => h.1.elim
  | _ :: _, .bag :: _, _, h, e => by cases e
  | _ :: _, .cnt :: _, _, h, e => by cases e
  | _ :: _, .xcp _ _ _ _ _ :: _, _, h, _ => h.1.elim
  | _ :: _, .ol _ :: _, _, h, _ => h.1.elim
  | _ :: _, .oK _ _ :: _, _, h, _ => h.1.elim
  | _ :: _, .oT _ _ :: _, _, h, _ => h.1.elim
  | _ :: _, .oI _ _ _ _ :: _, _, h, _ => h.1.elim
  | _ :: _, .oL _ _ :: _, _, h, _ => h.1.elim
  | [], _ :: _, _, h, _ => h.elim
  | _ :: _, [], _, h, _ => h.elim
def tdLst (t : TDA) : TD := fun δ Q => t δ fun rs δ' => match datas rs with
  | some ds => ds.length ≤ sizeLine ∧ Q (.ol ds) δ'
  | none => False
def tdTup (t : TDA) : TD := fun δ Q => t δ fun rs δ' => match datas rs with
  | some ds => ds.length ≤ sizeLine ∧ Q (.dt (.tup ds)) δ'
  | none => False
theorem aftUp {K : PySem.W.Frag} {B : Bg} {H0 G0 H H1 : Hp} {σ : L2.St} {G G1 : Hp} {Q : VK} {r : Sl} {δ' : List Sl} (q : Aft K B H0 G0 H σ G Q r δ') (sG : Same G G1) (fr : Fra B H H1) : Aft K B H0 G0 H1 σ G1 Q r δ' := aft_step sG fr r δ' q
theorem pd_lst (h : PDA X es u) : PD X (.List es pos) (tdLst u) := by
  refine ⟨PE.weak (pe_lst h.pa) fun σ H Q ⟨B, H0, G0, δ, G, R, q⟩ => ⟨B, H0, G0, δ, G, R, h.mono _ _ _ q fun rs δ1 q vs H1 G1 R1 s1 f1 oks => ?_⟩, fun δ Q Q' q w => h.mono _ _ _ q fun rs δ1 q => ?_⟩
  · cases ed : datas rs with
    | none => rw [ed] at q; exact q.elim
    | some ds =>
      rw [ed] at q
      have hd := datas_ok oks ed
      have z := q.1
      rw [← hd.len] at z
      exact ⟨z, fun p hp => aft_own (s := .ol ds) R1 hp z rfl ⟨_, upd_same, hd⟩ (aftUp q.2 s1 f1)⟩
  · cases ed : datas rs with
    | none => rw [ed] at q; exact q
    | some ds => rw [ed] at q; exact ⟨q.1, w _ _ q.2⟩
theorem pd_tup {x1} (h : PDA X es u) : PD X (.Tuple es x1 pos) (tdTup u) := by
  refine ⟨PE.weak (pe_tup h.pa) fun σ H Q ⟨B, H0, G0, δ, G, R, q⟩ => ⟨B, H0, G0, δ, G, R, h.mono _ _ _ q fun rs δ1 q vs H1 G1 R1 s1 f1 oks => ?_⟩, fun δ Q Q' q w => h.mono _ _ _ q fun rs δ1 q => ?_⟩
  · cases ed : datas rs with
    | none => rw [ed] at q; exact q.elim
    | some ds =>
      rw [ed] at q
      have hd := datas_ok oks ed
      have z := q.1
      rw [← hd.len] at z
      refine ⟨z, fun p hp => ?_⟩
      have gp := R1.sub.free hp
      have sG : Same G1 (upd G1 p (.tup vs)) := fun b x e => by rw [upd_ne (ne_of_none e gp)]; exact e
      exact aft_laid R1 hp z (.tup (.inl (.inl upd_same)) (DdA.mono sG _ _ hd)) (aftUp q.2 s1 f1)
  · cases ed : datas rs with
    | none => rw [ed] at q; exact q
    | some ds => rw [ed] at q; exact ⟨q.1, w _ _ q.2⟩
/-- {} -/
def tdDK : TD := fun δ Q => Q (.oK [] []) δ
theorem pd_dK : PD X (.Dict [] [] pos) tdDK :=
  ⟨PE.weak pe_dnewK fun σ H Q ⟨B, H0, G0, δ, G, R, q⟩ p hp => aft_own (s := .oK [] []) R hp (Nat.zero_le _) rfl ⟨[], rfl, upd_same, .nil⟩ q, fun _ _ _ q w => w _ _ q⟩
/-! ### calls of built-ins -/
abbrev FDC := List Sl → List Sl → QD → Prop
def MonoC (f : FDC) : Prop := ∀ rs δ (Q Q' : QD), f rs δ Q → (∀ r δ', Q r δ' → Q' r δ') → f rs δ Q'
def CallS (K : PySem.W.Frag) (r : List V → Hp → VK → Prop) (f : FDC) : Prop := ∀ (B : Bg) (H0 G0 H : Hp) (σ : L2.St) (δ : List Sl) (G : Hp) (vs : List V) (rs : List Sl) (Q : VK),
  Rel K B H0 G0 H σ δ G → ArgsOk K B G vs rs → f rs δ (Aft K B H0 G0 H σ G Q) → r vs H Q
def tdCB (f : FDC) (t : TDA) : TD := fun δ Q => t δ fun rs δ' => f rs δ' Q
theorem pd_cb {r : List V → Hp → VK → Prop} {f : FDC} (mf : MonoC f) (o : CallS X.K r f) (h : PDA X es u) (rule : PE X e (tCB r (tyA X.K u))) : PD X e (tdCB f u) :=
  ⟨PE.weak rule fun σ H Q ⟨B, H0, G0, δ, G, R, q⟩ => ⟨B, H0, G0, δ, G, R, h.mono _ _ _ q fun rs δ1 q vs H1 G1 R1 s1 f1 oks => o B H0 G0 H1 σ δ1 G1 vs rs Q R1 oks (mf _ _ _ _ q (aft_step s1 f1))⟩,
    fun δ Q Q' q w => h.mono _ _ _ q fun rs δ1 q => mf _ _ _ _ q w⟩
theorem pd_callB {id : String} {x : Str} {r : List V → Hp → VK → Prop} {f : FDC} (hc : CallR X (.builtin id) r) (mf : MonoC f) (o : CallS X.K r f) (hg : Gl X x) (hm : X.mg x = none) (hv : bootBuiltins x = some (.builtin id)) (h : PDA X (e :: es) u)
    (hn : x ≠ "__name__" := by decide) (hdb : (x == ("__debug__" : Str)) = false := by decide) (he : starEach (e :: es) X.env = (false, eval e X.env) :: starEach es X.env := by rfl) (hpl : (backTo pos (starEach es X.env)).any (·.1) = false := by rfl) :
    PD X (.Call (.Name x p) (e :: es) [] pos) (tdCB f u) := pd_cb mf o h (pe_callB hc hg hm hv h.pa hn hdb he hpl)
theorem pd_callTy {T : String} {x : Str} {r : List V → Hp → VK → Prop} {f : FDC} (hc : CallR X (.type T) r) (mf : MonoC f) (o : CallS X.K r f) (hg : Gl X x) (hm : X.mg x = none) (hv : bootBuiltins x = some (.type T)) (h : PDA X (e :: es) u)
    (hn : x ≠ "__name__" := by decide) (hdb : (x == ("__debug__" : Str)) = false := by decide) (he : starEach (e :: es) X.env = (false, eval e X.env) :: starEach es X.env := by rfl) (hpl : (backTo pos (starEach es X.env)).any (·.1) = false := by rfl) :
    PD X (.Call (.Name x p) (e :: es) [] pos) (tdCB f u) := pd_cb mf o h (pe_callTy hc hg hm hv h.pa hn hdb he hpl)
theorem callR_or {g : Value} {r1 r2 : List V → Hp → VK → Prop} (h1 : CallR X g r1) (h2 : CallR X g r2) : CallR X g (fun xs H Q => r1 xs H Q ∨ r2 xs H Q) := by
  intro pins s σ H xs us Q I r h
  rcases h with h | h
  · exact h1 pins s σ H xs us Q I r h
  · exact h2 pins s σ H xs us Q I r h
/-- one argument that is data -/
def f1 (g : D → List Sl → QD → Prop) : FDC := fun rs δ Q => match rs with
  | [.dt d] => g d δ Q
  | _ => False
theorem mono_f1 {g : D → List Sl → QD → Prop} (h : ∀ d δ (Q Q' : QD), g d δ Q → (∀ r δ', Q r δ' → Q' r δ') → g d δ Q') : MonoC (f1 g) := fun rs δ Q Q' q w => by
  unfold f1 at q ⊢
  split at q
  · exact h _ _ _ _ q w
  · exact q
theorem arg1 {K : PySem.W.Frag} {B : Bg} {G : Hp} : ∀ {vs : List V} {d : D}, ArgsOk K B G vs [.dt d] → ∃ v, vs = [v] ∧ Dd K G v d
  | [], _, h => h.elim
  | [v], _, h => ⟨v, rfl, h.1⟩
  | _ :: _ :: _, _, h => h.2.elim
theorem callS_1 {K : PySem.W.Frag} {r : List V → Hp → VK → Prop} {g : D → List Sl → QD → Prop}
    (o : ∀ (B : Bg) (H0 G0 H : Hp) (σ : L2.St) (δ : List Sl) (G : Hp) (v : V) (d : D) (Q : VK), Rel K B H0 G0 H σ δ G → Dd K G v d → g d δ (Aft K B H0 G0 H σ G Q) → r [v] H Q) : CallS K r (f1 g) := by
  intro B H0 G0 H σ δ G vs rs Q R oks q
  unfold f1 at q
  split at q
  · obtain ⟨v, rfl, hd⟩ := arg1 oks
    exact o _ _ _ _ _ _ _ _ _ _ R hd q
  · exact q.elim
/-! len -/
def gLen : D → List Sl → QD → Prop := fun d δ Q => match d with
  | .lst xs => Q (.dt (.int xs.length)) δ
  | .tup xs => Q (.dt (.int xs.length)) δ
  | .str x => x.length ≤ sizeLine ∧ Q (.dt (.int x.length)) δ
  | .dK ks _ => Q (.dt (.int ks.length)) δ
  | _ => False
theorem mono_len : MonoC (f1 gLen) := mono_f1 fun d δ Q Q' q w => by
  unfold gLen at q ⊢
  split at q <;> first | exact w _ _ q | exact ⟨q.1, w _ _ q.2⟩ | exact q
abbrev rLenX (X : Cx) : List V → Hp → VK → Prop := fun xs H Q => (∃ x n, xs = [x] ∧ LenV X.K x H n ∧ Q (.int n) H) ∨ (∃ a kvs, xs = [.ref a] ∧ H a = some (.dK kvs) ∧ Q (.int kvs.length) H)
end
end DL

set_option Elab.async false
set_option linter.all false
set_option maxRecDepth 100000
set_option maxHeartbeats 2000000
/-! DL6: the built-ins over data: len, int, abs, isinstance, repr, list, tuple; slices. -/
namespace DL
open PySem PySem.Spec PyProof.Rows L2
section
variable {X : Cx} {e a b c : Expr} {es : List Expr} {pos p : Pos} {ta tb tc : TD} {u : TDA}
theorem callR_len : CallR X (.builtin "len") (rLenX X) := callR_or call_len call_lenD
theorem callS_len : CallS X.K (rLenX X) (f1 gLen) := callS_1 fun B H0 G0 H σ δ G v d Q R hd q => by
  unfold gLen at q
  split at q
  · cases hd with
    | lst h1 h2 => exact .inl ⟨_, _, rfl, .inl ⟨_, SqL.of (R.sub _ _ h1), rfl⟩, aft_here R (.int _) (h2.len ▸ q)⟩
  · cases hd with
    | tup h1 h2 => exact .inl ⟨_, _, rfl, .inr ⟨_, sameT R.sub h1, rfl⟩, aft_here R (.int _) (h2.len ▸ q)⟩
  · cases hd
    exact .inl ⟨_, _, rfl, ⟨q.1, rfl⟩, aft_here R (.int _) q.2⟩
  · cases hd with
    | @dK a ks' xs ds h0 h1 h2 =>
      rename_i ks _
      refine .inr ⟨_, _, rfl, R.sub _ _ h1, ?_⟩
      have z : (ks.zip xs).length = ks.length := by rw [List.length_zip, ← h0, Nat.min_self]
      rw [z]
      exact aft_here R (.int _) q
  · exact q.elim
theorem pd_len (hg : Gl X "len") (hm : X.mg "len" = none) (h : PDA X [e] u) (he : starEach [e] X.env = (false, eval e X.env) :: starEach [] X.env := by rfl) (hpl : (backTo pos (starEach [] X.env)).any (·.1) = false := by rfl) :
    PD X (.Call (.Name "len" p) [e] [] pos) (tdCB (f1 gLen) u) := pd_callB callR_len mono_len callS_len hg hm PySem.boot_len h (by decide) (by decide) he hpl
def gInt : D → List Sl → QD → Prop := fun d δ Q => match d with
  | .int i => Q (.dt (.int i)) δ
  | .bl k => Q (.dt (.int (if k then 1 else 0))) δ
  | _ => False
theorem pd_int (hg : Gl X "int") (hm : X.mg "int" = none) (h : PDA X [e] u) (he : starEach [e] X.env = (false, eval e X.env) :: starEach [] X.env := by rfl) (hpl : (backTo pos (starEach [] X.env)).any (·.1) = false := by rfl) :
    PD X (.Call (.Name "int" p) [e] [] pos) (tdCB (f1 gInt) u) :=
  pd_callTy call_int1 (mono_f1 fun d δ Q Q' q w => by unfold gInt at q ⊢; split at q <;> first | exact w _ _ q | exact q)
    (callS_1 fun B H0 G0 H σ δ G v d Q R hd q => by
      unfold gInt at q
      split at q
      · cases hd; exact .inl ⟨_, rfl, aft_here R (.int _) q⟩
      · cases hd; exact .inr ⟨_, rfl, aft_here R (.int _) q⟩
      · exact q.elim) hg hm boot_int h (by decide) (by decide) he hpl
def gAbs : D → List Sl → QD → Prop := fun d δ Q => match d with
  | .int i => Q (.dt (.int (if i < 0 then -i else i))) δ
  | _ => False
theorem boot_abs' : bootBuiltins "abs" = some (.builtin "abs") := by decide +kernel
theorem pd_abs (hg : Gl X "abs") (hm : X.mg "abs" = none) (h : PDA X [e] u) (he : starEach [e] X.env = (false, eval e X.env) :: starEach [] X.env := by rfl) (hpl : (backTo pos (starEach [] X.env)).any (·.1) = false := by rfl) :
    PD X (.Call (.Name "abs" p) [e] [] pos) (tdCB (f1 gAbs) u) :=
  pd_callB call_abs (mono_f1 fun d δ Q Q' q w => by unfold gAbs at q ⊢; split at q <;> first | exact w _ _ q | exact q)
    (callS_1 fun B H0 G0 H σ δ G v d Q R hd q => by
      unfold gAbs at q
      split at q
      · cases hd; exact ⟨_, rfl, aft_here R (.int _) q⟩
      · exact q.elim) hg hm boot_abs' h (by decide) (by decide) he hpl
/-! list(x), tuple(x) -/
def gList : D → List Sl → QD → Prop := fun d δ Q => match seqOf d with
  | some xs => Q (.ol xs) δ
  | none => False
end
/-- sizes of shared data -/
theorem Dd.size {K : PySem.W.Frag} {B : Bg} {H0 G0 H : Hp} {σ : L2.St} {δ : List Sl} {G : Hp} (R : Rel K B H0 G0 H σ δ G) {v : V} {xs : List D} (h : Dd K G v (.lst xs)) : xs.length ≤ sizeLine := by
  cases h with
  | lst h1 h2 => rw [← h2.len]; exact R.sz _ _ (R.sub _ _ h1)
theorem boot_list' : bootBuiltins "list" = some (.type "list") := by decide +kernel
theorem boot_tuple' : bootBuiltins "tuple" = some (.type "tuple") := by decide +kernel
theorem boot_repr' : bootBuiltins "repr" = some (.builtin "repr") := by decide +kernel
theorem boot_isi' : bootBuiltins "isinstance" = some (.builtin "isinstance") := by decide +kernel
section
variable {X : Cx} {e a b c : Expr} {es : List Expr} {pos p : Pos} {ta tb tc : TD} {u : TDA}
theorem pd_list (hg : Gl X "list") (hm : X.mg "list" = none) (h : PDA X [e] u) (he : starEach [e] X.env = (false, eval e X.env) :: starEach [] X.env := by rfl) (hpl : (backTo pos (starEach [] X.env)).any (·.1) = false := by rfl) :
    PD X (.Call (.Name "list" p) [e] [] pos) (tdCB (f1 fun d δ Q => match seqOf d with | some xs => xs.length ≤ sizeLine ∧ Q (.ol xs) δ | none => False) u) :=
  pd_callTy call_list_of (mono_f1 fun d δ Q Q' q w => by split at q <;> first | exact ⟨q.1, w _ _ q.2⟩ | exact q)
    (callS_1 fun B H0 G0 H σ δ G v d Q R hd q => by
      split at q
      · rename_i xs e1
        obtain ⟨a, ws, rfl, hq, hA⟩ := seqOf_ok R hd e1
        have z := q.1
        rw [← hA.len] at z
        exact ⟨a, ws, rfl, hq, fun l hl => aft_own (s := .ol xs) R hl z rfl ⟨_, upd_same, hA⟩ q.2⟩
      · exact q.elim) hg hm boot_list' h (by decide) (by decide) he hpl
theorem pd_tuple (hg : Gl X "tuple") (hm : X.mg "tuple" = none) (h : PDA X [e] u) (he : starEach [e] X.env = (false, eval e X.env) :: starEach [] X.env := by rfl) (hpl : (backTo pos (starEach [] X.env)).any (·.1) = false := by rfl) :
    PD X (.Call (.Name "tuple" p) [e] [] pos) (tdCB (f1 fun d δ Q => match seqOf d with | some xs => Q (.dt (.tup xs)) δ | none => False) u) :=
  pd_callTy call_tuple_of (mono_f1 fun d δ Q Q' q w => by split at q <;> first | exact w _ _ q | exact q)
    (callS_1 fun B H0 G0 H σ δ G v d Q R hd q => by
      split at q
      · rename_i xs e1
        cases hd <;> first | cases e1 | skip
        · rename_i a vs h1 h2
          refine ⟨a, vs, rfl, .inl ⟨SqL.of (R.sub _ _ h1), fun l hl => ?_⟩⟩
          have gl := R.sub.free hl
          have sG : Same G (upd G l (.tup vs)) := fun b x e => by rw [upd_ne (ne_of_none e gl)]; exact e
          exact aft_laid R hl (show vs.length ≤ sizeLine from R.sz _ _ (R.sub _ _ h1)) (.tup (.inl (.inl upd_same)) (DdA.mono sG _ _ h2)) q
        · rename_i a vs h1 h2
          exact ⟨a, vs, rfl, .inr ⟨sameT R.sub h1, aft_here R (.tup h1 h2) q⟩⟩
      · exact q.elim) hg hm boot_tuple' h (by decide) (by decide) he hpl
/-! isinstance(x, T) -/
end
inductive Ty where | int | bool | str | list | tuple | dict
def Ty.name : Ty → String
  | .int => "int" | .bool => "bool" | .str => "str" | .list => "list" | .tuple => "tuple" | .dict => "dict"
def tyName : D → String
  | .non => "NoneType" | .bl _ => "bool" | .int _ => "int" | .str _ => "str" | .lst _ => "list" | .tup _ => "tuple" | .dK _ _ => "dict" | .dT _ _ => "dict" | .ins _ _ _ => ""
def isTy : Ty → D → Bool
  | .int, .int _ => true
  | .int, .bl _ => true
  | .bool, .bl _ => true
  | .str, .str _ => true
  | .list, .lst _ => true
  | .tuple, .tup _ => true
  | .dict, .dK _ _ => true
  | .dict, .dT _ _ => true
  | _, _ => false
def D.isIns : D → Bool
  | .ins _ _ _ => true
  | _ => false
theorem kit_isTy (T : Ty) (d : D) (h : d.isIns = false) : kitB (tyName d) T.name = some (isTy T d) := by
  cases T <;> cases d <;> first | (cases h; done) | skip
  all_goals kernel_rfl
theorem tyX_of {K : PySem.W.Frag} {B : Bg} {H0 G0 H : Hp} {σ : L2.St} {δ : List Sl} {G : Hp} (R : Rel K B H0 G0 H σ δ G) {v : V} {d : D} (h : Dd K G v d) (hi : d.isIns = false) : TyX K H v (.type (tyName d)) := by
  cases h with
  | non => exact .base .non
  | bl b => exact .base (.bl b)
  | int i => exact .base (.int i)
  | str x => exact .base (.str x)
  | lst h1 h2 => exact .base (.lst (R.sub _ _ h1))
  | tup h1 h2 =>
    rcases h1 with (h1 | ⟨o, h1⟩) | ⟨o, its, n, hk, hc, _⟩
    · exact .base (.tup (R.sub _ _ h1))
    · exact .fTuple (R.sub _ _ h1)
    · exact .kTuple hk hc
  | dK h0 h1 h2 => exact .base (.dK (R.sub _ _ h1))
  | dT h0 h1 h2 => exact .base (.dT (R.sub _ _ h1))
  | ins h0 h1 h2 => cases hi
def tdIsi (T : Ty) (ta : TD) : TD := fun δ Q => ta δ fun r δ' => match fz r with
  | some d => d.isIns = false ∧ Q (.dt (.bl (isTy T d))) δ'
  | none => False
section
variable {X : Cx} {e a b c : Expr} {es : List Expr} {pos p : Pos} {ta tb tc : TD} {u : TDA}
theorem pd_isi (T : Ty) {x : Str} {p2 : Pos} (hg : Gl X "isinstance") (hm : X.mg "isinstance" = none) (hgx : Gl X x) (hmx : X.mg x = none) (hvx : bootBuiltins x = some (.type T.name)) (h : PD X e ta)
    (hn : x ≠ "__name__" := by decide) (hdx : (x == ("__debug__" : Str)) = false := by decide)
    (hs1 : starEach [.Name x p2] X.env = (false, eval (.Name x p2) X.env) :: starEach [] X.env := by rfl) (he : starEach [e, .Name x p2] X.env = (false, eval e X.env) :: starEach [.Name x p2] X.env := by rfl) (hpl : (backTo pos (starEach [.Name x p2] X.env)).any (·.1) = false := by rfl) :
    PD X (.Call (.Name "isinstance" p) [e, .Name x p2] [] pos) (tdIsi T ta) := by
  have rule := pe_callB (X := X) (p := p) (pos := pos) call_isi hg hm boot_isi' (pa_cons h.pe (pa_cons (pe_bltn (pos := p2) (v := .ty T.name) hgx hmx hvx rfl hn hdx) pa_nil hs1) he) (by decide) (by decide) he hpl
  refine ⟨PE.weak rule fun σ H Q ⟨B, H0, G0, δ, G, R, q⟩ => ?_, fun δ Q Q' q w => h.mono _ _ _ q fun r δ' q => ?_⟩
  · refine ev_data h.mono (kk := fun d δ' => d.isIns = false ∧ Aft X.K B H0 G0 H σ G Q (.dt (.bl (isTy T d))) δ') R q fun d δ1 v H1 G1 R1 s1 f1 hd hq => ?_
    exact ⟨v, .ty T.name, _, _, isTy T d, rfl, .ty _, tyX_of R1 hd hq.1, kit_ty (kit_isTy T d hq.1), aft_here R1 (.bl _) (aftUp hq.2 s1 f1)⟩
  · cases e : fz r with
    | none => rw [e] at q; exact q
    | some d => rw [e] at q; exact ⟨q.1, w _ _ q.2⟩
end
/-! ### slices -/
def cutL {α : Type} (xs : List α) (lo hi : Option Int) : List α := (xs.drop (HT.sIx xs.length 0 lo)).take (HT.sIx xs.length xs.length hi - HT.sIx xs.length 0 lo)
theorem cutL_V (xs : List V) (lo hi : Option Int) : cutV xs lo hi = cutL xs lo hi := rfl
theorem cut_ok {K : PySem.W.Frag} {G : Hp} {vs : List V} {ds : List D} (h : DdA K G vs ds) (lo hi : Option Int) : DdA K G (cutV vs lo hi) (cutL ds lo hi) := by
  unfold cutV cutL
  rw [h.len]
  exact (h.drop _).take _
theorem cutL_all {α : Type} {xs : List α} {lo hi : Option Int} (h1 : HT.sIx xs.length 0 lo = 0) (h2 : HT.sIx xs.length xs.length hi = xs.length) : cutL xs lo hi = xs := by
  unfold cutL
  rw [h1, h2]
  simp
abbrev TDO := List Sl → (Option Int → List Sl → Prop) → Prop
def MonoO (t : TDO) : Prop := ∀ δ (Q Q' : Option Int → List Sl → Prop), t δ Q → (∀ b δ', Q b δ' → Q' b δ') → t δ Q'
def AftO (K : PySem.W.Frag) (B : Bg) (H0 G0 H : Hp) (σ : L2.St) (G : Hp) (Q : Option Int → Hp → Prop) : Option Int → List Sl → Prop := fun b δ' => ∀ H' G', Rel K B H0 G0 H' σ δ' G' → Same G G' → Fra B H H' → Q b H'
def tyO (K : PySem.W.Frag) (t : TDO) : TO := fun σ H Q => ∃ B H0 G0 δ G, Rel K B H0 G0 H σ δ G ∧ t δ (AftO K B H0 G0 H σ G Q)
structure PDO (X : Cx) (e : Option Expr) (t : TDO) : Prop where
  po : PO X e (tyO X.K t)
  mono : MonoO t
theorem PO.weak {X : Cx} {e : Option Expr} {t t' : TO} (h : PO X e t) (w : ∀ σ H Q, t' σ H Q → t σ H Q) : PO X e t' := ⟨fun pins s σ H Q I q => h.run pins s σ H Q I (w σ H Q q)⟩
def tdNoP : TDO := fun δ Q => Q none δ
def tdPart (t : TD) : TDO := fun δ Q => t δ fun r δ' => match r with
  | .dt (.int i) => Q (some i) δ'
  | _ => False
abbrev FSl := D → Option Int → Option Int → List Sl → QD → Prop
def fSl : FSl := fun d lo hi δ Q => match d with
  | .lst xs => Q (.ol (cutL xs lo hi)) δ
  | .tup xs => Q (.dt (.tup (cutL xs lo hi))) δ
  | .str z => z.length ≤ sizeLine ∧ Q (.dt (.str (cutS z lo hi))) δ
  | _ => False
def tdSl (ta : TD) (tl th : TDO) : TD := fun δ Q => ta δ fun r δ1 => match fz r with
  | none => False
  | some d => tl δ1 fun l δ2 => th δ2 fun h δ3 => fSl d l h δ3 Q
section
variable {X : Cx} {e a b c : Expr} {lo hi : Option Expr} {es : List Expr} {pos p p2 : Pos} {ta tb tc : TD} {tl th : TDO}
theorem pdo_none : PDO X none tdNoP := ⟨PO.weak po_none fun σ H Q ⟨B, H0, G0, δ, G, R, q⟩ => q H G R (Same.refl _) (Fra.refl _ _), fun _ _ _ q w => w _ _ q⟩
theorem pdo_some (h : PD X e ta) : PDO X (some e) (tdPart ta) := by
  refine ⟨PO.weak (po_some h.pe) fun σ H Q ⟨B, H0, G0, δ, G, R, q⟩ => ⟨B, H0, G0, δ, G, R, h.mono _ _ _ q fun r δ1 q v H1 G1 R1 s1 f1 ok => ?_⟩, fun δ Q Q' q w => h.mono _ _ _ q fun r δ1 q => ?_⟩
  · split at q
    · cases ok.1
      exact ⟨_, rfl, q H1 G1 R1 s1 f1⟩
    · exact q.elim
  · split at q
    · exact w _ _ q
    · exact q
theorem mono_fSl {d : D} {lo hi : Option Int} {δ : List Sl} {Q Q' : QD} (q : fSl d lo hi δ Q) (w : ∀ r δ', Q r δ' → Q' r δ') : fSl d lo hi δ Q' := by
  unfold fSl at q ⊢
  split at q <;> first | exact w _ _ q | exact ⟨q.1, w _ _ q.2⟩ | exact q
theorem pd_slice (ha : PD X e ta) (hl : PDO X lo tl) (hh : PDO X hi th) : PD X (.Subscript e (.Slice lo hi none p2) pos) (tdSl ta tl th) := by
  have rule := pe_slice (pos := pos) (p2 := p2) (sl_list.or (sl_tupA.or sl_str)) ha.pe hl.po hh.po
  refine ⟨PE.weak rule fun σ H Q ⟨B, H0, G0, δ, G, R, q⟩ => ?_, fun δ Q Q' q w => ha.mono _ _ _ q fun r δ1 q => ?_⟩
  · refine ev_data ha.mono (kk := fun d δ1 => tl δ1 fun l δ2 => th δ2 fun h δ3 => fSl d l h δ3 (Aft X.K B H0 G0 H σ G Q)) R (ha.mono _ _ _ q fun r δ1 h => ?_) fun d δ1 v H1 G1 R1 s1 f1 hd h => ?_
    · cases e : fz r with
      | none => rw [e] at h; exact h
      | some d => rw [e] at h; exact h
    · refine ⟨B, H0, G0, δ1, G1, R1, hl.mono _ _ _ h fun l δ2 h2 H2 G2 R2 s2 f2 => ⟨B, H0, G0, δ2, G2, R2, hh.mono _ _ _ h2 fun u δ3 h3 H3 G3 R3 s3 f3 => ?_⟩⟩
      have hd3 := Dd.mono (s2.trans s3) _ _ hd
      have h3 := mono_fSl h3 (aft_step ((s1.trans s2).trans s3) ((f1.trans f2).trans f3))
      unfold fSl at h3
      split at h3
      · cases hd3 with
        | @lst a vs ds g1 g2 =>
          refine .inl ⟨a, vs, rfl, SqL.of (R3.sub _ _ g1), fun p hp => ?_⟩
          exact aft_own (s := .ol _) R3 hp (Nat.le_trans (cutV_length _ _ _) (R3.sz _ _ (R3.sub _ _ g1))) rfl ⟨_, upd_same, cut_ok g2 l u⟩ h3
      · cases hd3 with
        | @tup a vs ds g1 g2 =>
          refine .inr (.inl ⟨a, vs, rfl, sameT R3.sub g1, fun z => ?_, fun z p hp => ?_⟩)
          · rw [g2.len] at z
            rw [cutL_all z.1 z.2] at h3
            exact aft_here R3 (.tup g1 g2) h3
          · have gp := R3.sub.free hp
            have sG : Same G3 (upd G3 p (.tup (cutV vs l u))) := fun b x e => by rw [upd_ne (ne_of_none e gp)]; exact e
            refine aft_laid R3 hp ?_ (.tup (.inl (.inl upd_same)) (DdA.mono sG _ _ (cut_ok g2 l u))) h3
            refine Nat.le_trans (cutV_length _ _ _) ?_
            rcases sameT R3.sub g1 with (g | ⟨o, g⟩) | ⟨o, its, n, _, _, _, hz, r⟩
            · exact R3.sz _ _ g
            · exact R3.sz _ _ g
            · rw [r.length, Array.length_toList]; exact hz
      · cases hd3
        exact .inr (.inr ⟨_, rfl, h3.1, aft_here R3 (.str _) h3.2⟩)
      · exact h3.elim
  · cases e : fz r with
    | none => rw [e] at q; exact q
    | some d => rw [e] at q; exact hl.mono _ _ _ q fun l δ2 q => hh.mono _ _ _ q fun h δ3 q => mono_fSl q w
end
end DL

set_option Elab.async false
set_option linter.all false
set_option maxRecDepth 100000
set_option maxHeartbeats 2000000
/-! DL7: defs' promises and calls, statements over data. -/
namespace DL
open PySem PySem.Spec PyProof.Rows L2
/-! ### promises -/
abbrev TF := List Sl → (Sl → Prop) → Prop
def MonoF (t : TF) : Prop := ∀ rs (Q Q' : Sl → Prop), t rs Q → (∀ r, Q r → Q' r) → t rs Q'
structure RetOk (K : PySem.W.Frag) (B : Bg) (H G H' G' : Hp) (v : V) (r : Sl) : Prop where
  gg : Same G G'
  gh : Same G' H'
  bag : ∀ b c, (b, c) ∈ B → BagOk H' G' b c
  fra : Fra B H H'
  sz : HSz H'
  gn : ∀ a o, G' a = some o → G a = some o ∨ H a = none
  val : ValOk K B H' G' v r
  no : r ≠ .no
  own : r.isOwn = true → ∀ a, v = .ref a → H a = none
def spD (K : PySem.W.Frag) (n : Nat) (t : TF) : Sp := fun vs H Q _ => vs.length = n ∧ ∃ B G rs, Same G H ∧ (∀ b c, (b, c) ∈ B → BagOk H G b c) ∧ HSz H ∧ ArgsOk K B G vs rs ∧
  t rs (fun r => ∀ v H' G', RetOk K B H G H' G' v r → Q v H')
def tdCall (t : TF) (u : TDA) : TD := fun δ Q => u δ fun rs δ' => t rs (fun r => Q r δ')
section
variable {K : PySem.W.Frag} {B : Bg} {H0 G0 H H' G G' : Hp} {σ : L2.St} {δ : List Sl}
theorem Rel.call (R : Rel K B H0 G0 H σ δ G) {v : V} {r : Sl} (k : RetOk K B H G H' G' v r) : Rel K B H0 G0 H' σ δ G' ∧ ResOk K B H0 H' σ δ G' v r := by
  have gN : ∀ i a, Own σ δ i a → G' a = none := fun i a oa => by
    obtain ⟨s, _, _, h⟩ := R.at oa
    obtain ⟨x, hx⟩ := h.there
    cases q : G' a with
    | none => rfl
    | some o =>
      rcases k.gn a o q with z | z
      · rw [(R.own i a oa).2.1] at z; cases z
      · rw [z] at hx; cases hx
  refine ⟨⟨k.gh, R.g0.trans k.gg, fun a o e n => k.fra a o (R.ent a o e n) n, R.len, fun i s e => ?_, R.sep, fun i a oa => ⟨(R.own i a oa).1, gN i a oa, (R.own i a oa).2.2⟩, k.bag, fun a o e => ?_, k.sz⟩, k.val, k.no, fun io a e => ?_⟩
  · rcases R.sl i s e with z | ⟨w, ev, ok⟩
    · exact .inl z
    · refine .inr ⟨w, ev, ?_⟩
      cases s with
      | no => trivial
      | dt d => exact Dd.mono k.gg d w ok
      | bag => exact ok
      | cnt => exact ok
      | xcp _ _ _ _ _ => first | exact ok | exact xcp_mono (by assumption) ok | exact xcp_mono k.gg ok
      | ol ds =>
        obtain ⟨a, ea, ga, h⟩ := ok
        have oa : Own σ δ i a := ⟨ea ▸ ev, _, e, rfl⟩
        exact ⟨a, ea, gN i a oa, h.up (fun o q => k.fra a o q (R.own i a oa).2.2) k.gg⟩
      | oK ks ds =>
        obtain ⟨a, ea, ga, h⟩ := ok
        have oa : Own σ δ i a := ⟨ea ▸ ev, _, e, rfl⟩
        exact ⟨a, ea, gN i a oa, h.up (fun o q => k.fra a o q (R.own i a oa).2.2) k.gg⟩
      | oT ks ds =>
        obtain ⟨a, ea, ga, h⟩ := ok
        have oa : Own σ δ i a := ⟨ea ▸ ev, _, e, rfl⟩
        exact ⟨a, ea, gN i a oa, h.up (fun o q => k.fra a o q (R.own i a oa).2.2) k.gg⟩
      | oI x0 C ks ds =>
        obtain ⟨a, ea, ga, h⟩ := ok
        have oa : Own σ δ i a := ⟨ea ▸ ev, _, e, rfl⟩
        exact ⟨a, ea, gN i a oa, h.up (fun o q => k.fra a o q (R.own i a oa).2.2) k.gg⟩
      | oL x0 ds =>
        obtain ⟨a, ea, ga, h⟩ := ok
        have oa : Own σ δ i a := ⟨ea ▸ ev, _, e, rfl⟩
        exact ⟨a, ea, gN i a oa, h.up (fun o q => k.fra a o q (R.own i a oa).2.2) k.gg⟩
  · rcases k.gn a o e with z | z
    · exact R.gn a o z
    · exact .inr (R.new0 z)
  · exact R.newOwn (k.own io a e)
end
section
variable {X : Cx} {e : Expr} {es : List Expr} {pos p : Pos} {u : TDA} {k n : Nat} {f : Addr} {fd : FuncData} {ps : List Str} {t : TF} {x : Str}
theorem tdCall_run (mt : MonoF t) (mu : MonoA u) : ∀ (hn : ∀ rs Q, t rs Q → rs.length = n) σ H Q, tyE X.K (tdCall t u) σ H Q → tCall (spD X.K n t) [] E0 (tyA X.K u) σ H Q := by
  intro hn σ H Q ⟨B, H0, G0, δ, G, R, q⟩
  refine ⟨B, H0, G0, δ, G, R, mu _ _ _ q fun rs δ1 q vs H1 G1 R1 s1 f1 oks => ?_⟩
  show spD X.K n t (vs ++ []) H1 Q E0
  rw [List.append_nil]
  refine ⟨oks.len.trans (hn _ _ q), B, G1, rs, R1.sub, R1.bag, R1.sz, oks, mt _ _ _ q fun r q v H' G' k => ?_⟩
  obtain ⟨R2, ok⟩ := R1.call k
  exact q v H' G' R2 (s1.trans k.gg) (f1.trans k.fra) ok
theorem tdCall_mono (mt : MonoF t) (mu : MonoA u) : MonoD (tdCall t u) := fun δ Q Q' q w => mu _ _ _ q fun rs δ1 q => mt _ _ _ q fun r q => w _ _ q
theorem pd_call (F : FnOk X.prog X.w X.K X.mg X.base CX0 k f fd ps (spD X.K n t)) (mt : MonoF t) (hn : ∀ rs Q, t rs Q → rs.length = n) (hr : Room k X.A) (hg : Gl X x) (hm : X.mg x = some (.ref f)) (hk : PySem.W.keepIn X.K (.ref f) = true) (hb : Binds X.K fd ps []) (h : PDA X (e :: es) u)
    (hdb : (x == ("__debug__" : Str)) = false := by decide) (he : starEach (e :: es) X.env = (false, eval e X.env) :: starEach es X.env := by rfl) (hpl : (backTo pos (starEach es X.env)).any (·.1) = false := by rfl) :
    PD X (.Call (.Name x p) (e :: es) [] pos) (tdCall t u) := ⟨PE.weak (pe_call F hr hg hm hk hb .nil pass0 h.pa hdb he hpl) (tdCall_run mt h.mono hn), tdCall_mono mt h.mono⟩
theorem pd_callG (F : FnG X.prog X.w X.K X.mg X.base k f fd ps (spD X.K n t)) (mt : MonoF t) (hn : ∀ rs Q, t rs Q → rs.length = n) (hgd : Ng X.A) (hr : Room k X.A) (hg : Gl X x) (hm : X.mg x = some (.ref f)) (hk : PySem.W.keepIn X.K (.ref f) = true) (hb : Binds X.K fd ps []) (h : PDA X (e :: es) u)
    (hdb : (x == ("__debug__" : Str)) = false := by decide) (he : starEach (e :: es) X.env = (false, eval e X.env) :: starEach es X.env := by rfl) (hpl : (backTo pos (starEach es X.env)).any (·.1) = false := by rfl) :
    PD X (.Call (.Name x p) (e :: es) [] pos) (tdCall t u) := ⟨PE.weak (pe_callG F hgd hr hg hm hk hb .nil h.pa hdb he hpl) (tdCall_run mt h.mono hn), tdCall_mono mt h.mono⟩
end
/-! ### statements -/
structure EndsD where
  nx : List Sl → Prop
  rt : Sl → List Sl → Prop
  bk : List Sl → Prop := fun _ => False
  ct : List Sl → Prop := fun _ => False
  ex : Addr → List Str → List D → List Sl → Prop := fun _ _ _ _ => False
abbrev TDS := EndsD → List Sl → Prop
structure EndsD.le (D D' : EndsD) : Prop where
  nx : ∀ δ, D.nx δ → D'.nx δ
  rt : ∀ r δ, D.rt r δ → D'.rt r δ
  bk : ∀ δ, D.bk δ → D'.bk δ
  ct : ∀ δ, D.ct δ → D'.ct δ
  ex : ∀ C ns ds δ, D.ex C ns ds δ → D'.ex C ns ds δ
theorem EndsD.le_refl (D : EndsD) : D.le D := ⟨fun _ h => h, fun _ _ h => h, fun _ h => h, fun _ h => h, fun _ _ _ _ h => h⟩
def MonoS (t : TDS) : Prop := ∀ D D' δ, EndsD.le D D' → t D δ → t D' δ
/-- what the context wishes of an exception: the weakest that it takes -/
def WM (X : Cx) : WX := fun cls d σ H => ∀ (u : Value) (s' : Shared) (a : Addr) (B : Heap) (sI : Shared) (pins : List (Addr × Obj)),
  u = .ref a → Inv X pins σ H sI → (∀ b o, sI.heap.get? b = some o → b ∉ frs X.stack → B.get? b = some o) → sI.heap.UpToSlots s'.heap → Sky B X.stack a (Zc cls d) X.env.locals s'.heap → H a = none → s'.os = sI.os → AllBare s'.gens → X.xe u s'
theorem takes_WM (X : Cx) : Takes X (WM X) := fun u s' ⟨a, B, sI, pins, σ, H, cls, d, e, I, nb, up, sky, na, os, ag, w⟩ => w u s' a B sI pins e I nb up sky na os ag
theorem WM.of {X : Cx} {W : WX} (t : Takes X W) {cls : Value} {d : Option Addr} {σ : L2.St} {H : Hp} (w : W cls d σ H) : WM X cls d σ H := fun u s' a B sI pins e I nb up sky na os ag => t u s' ⟨a, B, sI, pins, σ, H, cls, d, e, I, nb, up, sky, na, os, ag, w⟩
/-- an exception of class C with the fields ns, ds, in the air -/
def exW (X : Cx) (B : Bg) (H0 G0 : Hp) (C : Addr) (ns : List Str) (ds : List D) (δ' : List Sl) : Prop := ∀ σ' H' G' dd xs, Rel X.K B H0 G0 H' σ' δ' G' → ns.length = xs.length → H' dd = some (.xd (ns.zip xs)) → H0 dd = none → G' dd = none → NotB B dd → (∀ i, ¬ Own σ' δ' i dd) → DdA X.K G' xs ds → WM X (.ref C) (some dd) σ' H'
def endsOf (X : Cx) (B : Bg) (H0 G0 : Hp) (D : Ends) : EndsD where
  nx := fun δ' => ∀ σ' H' G', Rel X.K B H0 G0 H' σ' δ' G' → D.nx σ' H'
  rt := fun r δ' => ∀ v σ' H' G', Rel X.K B H0 G0 H' σ' δ' G' → ResOk X.K B H0 H' σ' δ' G' v r → D.rt v H'
  bk := fun δ' => ∀ σ' H' G', Rel X.K B H0 G0 H' σ' δ' G' → D.bk σ' H'
  ct := fun δ' => ∀ σ' H' G', Rel X.K B H0 G0 H' σ' δ' G' → D.ct σ' H'
  ex := exW X B H0 G0
def tyS (X : Cx) (t : TDS) : TS := fun D σ H => ∃ B H0 G0 δ G, Rel X.K B H0 G0 H σ δ G ∧ t (endsOf X B H0 G0 D) δ
structure PDS (X : Cx) (st : Stmt) (t : TDS) : Prop where
  ps : PS X st (tyS X t)
  mono : MonoS t
structure PDSs (X : Cx) (sts : List Stmt) (t : TDS) : Prop where
  ps : PSs X sts (tyS X t)
  mono : MonoS t
theorem PS.weak {X : Cx} {st : Stmt} {t t' : TS} (h : PS X st t) (w : ∀ D σ H, t' D σ H → t D σ H) : PS X st t' := ⟨fun pins s σ H D I q => h.run pins s σ H D I (w D σ H q)⟩
theorem PSs.weak {X : Cx} {st : List Stmt} {t t' : TS} (h : PSs X st t) (w : ∀ D σ H, t' D σ H → t D σ H) : PSs X st t' := ⟨fun pins s σ H D I q => h.run pins s σ H D I (w D σ H q)⟩
def tdNext : TDS := fun D δ => D.nx δ
def tdSeq (t u : TDS) : TDS := fun D δ => t { D with nx := fun δ' => u D δ' } δ
def tdRet (t : TD) : TDS := fun D δ => t δ D.rt
def tdIfS (c : TDT) (t u : TDS) : TDS := fun D δ => c δ fun b δ' => if b = true then t D δ' else u D δ'
def tdSet (i : Nat) (t : TD) : TDS := fun D δ => t δ fun r δ' => D.nx (δ'.set i r)
def tdDrop (t : TD) : TDS := fun D δ => t δ fun _ δ' => D.nx δ'
section
variable {K : PySem.W.Frag} {B : Bg} {H0 G0 H H' G G' : Hp} {σ : L2.St} {δ : List Sl}
theorem getSet {α : Type} {l : List α} {i j : Nat} {a b : α} (h : (l.set i a)[j]? = some b) : (i = j ∧ i < l.length ∧ b = a) ∨ (i ≠ j ∧ l[j]? = some b) ∨ (i = j ∧ ¬ i < l.length ∧ False) := by
  by_cases hj : i = j
  · subst hj
    by_cases hl : i < l.length
    · rw [List.getElem?_set_self hl] at h; cases h; exact .inl ⟨rfl, hl, rfl⟩
    · rw [List.getElem?_eq_none (by simpa using hl)] at h; cases h
  · rw [List.getElem?_set_ne hj] at h; exact .inr (.inl ⟨hj, h⟩)
theorem Rel.assign (R : Rel K B H0 G0 H σ δ G) {v : V} {r : Sl} (ok : ResOk K B H0 H σ δ G v r) (i : Nat) : Rel K B H0 G0 H (σ.set i (some v)) (δ.set i r) G := by
  have back : ∀ j a, Own (σ.set i (some v)) (δ.set i r) j a → (j = i ∧ v = .ref a ∧ r.isOwn = true) ∨ (j ≠ i ∧ Own σ δ j a) := fun j a ⟨e, s, e2, io⟩ => by
    rcases getSet e2 with ⟨h1, h2, h3⟩ | ⟨h1, h2⟩ | ⟨_, _, h⟩
    · subst h1; subst h3
      rw [List.getElem?_set_self (by rw [R.len]; exact h2)] at e
      cases e
      exact .inl ⟨rfl, rfl, io⟩
    · rw [List.getElem?_set_ne h1] at e
      exact .inr ⟨fun z => h1 z.symm, e, s, h2, io⟩
    · exact h.elim
  refine ⟨R.sub, R.g0, R.ent, by rw [List.length_set, List.length_set]; exact R.len, fun j s e => ?_, fun j k a h1 h2 => ?_, fun j a h => ?_, R.bag, R.gn, R.sz⟩
  · rcases getSet e with ⟨h1, h2, h3⟩ | ⟨h1, h2⟩ | ⟨_, _, h⟩
    · subst h1; subst h3
      exact .inr ⟨v, by rw [List.getElem?_set_self (by rw [R.len]; exact h2)], ok.1⟩
    · rw [List.getElem?_set_ne h1]; exact R.sl j s h2
    · exact h.elim
  · rcases back j a h1 with ⟨z1, z2, z3⟩ | ⟨z1, z2⟩
    · rcases back k a h2 with ⟨y1, y2, y3⟩ | ⟨y1, y2⟩
      · rw [z1, y1]
      · exact ((ok.2.2 z3 a z2).2.2 k y2).elim
    · rcases back k a h2 with ⟨y1, y2, y3⟩ | ⟨y1, y2⟩
      · exact ((ok.2.2 y3 a y2).2.2 j z2).elim
      · exact R.sep j k a z2 y2
  · rcases back j a h with ⟨z1, z2, z3⟩ | ⟨z1, z2⟩
    · obtain ⟨w1, w2, w3⟩ := ok.2.2 z3 a z2
      obtain ⟨b, eb, gb, _⟩ := ok.1.own z3
      rw [z2] at eb; cases eb
      exact ⟨w1, gb, w2⟩
    · exact R.own j a z2
end
section
variable {X : Cx} {e c : Expr} {st : Stmt} {sts sa sb : List Stmt} {pos : Pos} {ta : TD} {uc : TDT} {t u : TDS}
theorem ends_le_nx {X : Cx} {B : Bg} {H0 G0 : Hp} {D : Ends} {f : TDS} (h : ∀ δ, f (endsOf X B H0 G0 D) δ → ∀ σ' H' G', Rel X.K B H0 G0 H' σ' δ G' → tyS X f D σ' H') :
    EndsD.le { endsOf X B H0 G0 D with nx := fun δ' => f (endsOf X B H0 G0 D) δ' } (endsOf X B H0 G0 { D with nx := tyS X f D }) :=
  ⟨fun δ q => h δ q, fun _ _ q => q, fun _ q => q, fun _ q => q, fun _ _ _ _ q => q⟩
theorem pds_cons (h : PDS X st t) (k : PDSs X sts u) : PDSs X (st :: sts) (tdSeq t u) := by
  refine ⟨PSs.weak (pss_cons h.ps k.ps) fun D σ H ⟨B, H0, G0, δ, G, R, q⟩ => ⟨B, H0, G0, δ, G, R, h.mono _ _ _ (ends_le_nx fun δ' q σ' H' G' R' => ⟨B, H0, G0, δ', G', R', q⟩) q⟩, fun D D' δ w q => h.mono { D with nx := fun δ' => u D δ' } { D' with nx := fun δ' => u D' δ' } _ ⟨fun δ' q => k.mono _ _ _ w q, w.rt, w.bk, w.ct, w.ex⟩ q⟩
theorem pds_one (h : PDS X st t) : PDSs X [st] t := ⟨pss_one h.ps, h.mono⟩
theorem pds_nil : PDSs X [] tdNext := ⟨PSs.weak pss_nil fun D σ H ⟨B, H0, G0, δ, G, R, q⟩ => q σ H G R, fun D D' δ w q => w.nx _ q⟩
theorem pds_ret (h : PD X e ta) : PDS X (.Return (some e) pos) (tdRet ta) :=
  ⟨PS.weak (ps_ret h.pe) fun D σ H ⟨B, H0, G0, δ, G, R, q⟩ => ⟨B, H0, G0, δ, G, R, h.mono _ _ _ q fun r δ' q v H' G' R' _ _ ok => q v σ H' G' R' ok⟩, fun D D' δ w q => h.mono _ _ _ q fun r δ' q => w.rt _ _ q⟩
theorem pds_if (h : PDT X c uc) (ha : PDSs X sa t) (hb : PDSs X sb u) : PDS X (.If c sa sb pos) (tdIfS uc t u) := by
  refine ⟨PS.weak (ps_if h.pt ha.ps hb.ps) fun D σ H ⟨B, H0, G0, δ, G, R, q⟩ => ⟨B, H0, G0, δ, G, R, h.mono _ _ _ q fun b δ' q H' G' R' _ _ => ?_⟩, fun D D' δ w q => h.mono _ _ _ q fun b δ' q => ?_⟩
  · cases b with
    | true => exact ⟨B, H0, G0, δ', G', R', q⟩
    | false => exact ⟨B, H0, G0, δ', G', R', q⟩
  · cases b with
    | true => exact ha.mono _ _ _ w q
    | false => exact hb.mono _ _ _ w q
theorem pds_set {i : Nat} {x : Str} {pos' : Pos} (hN : X.N.Nodup) (hi : X.N[i]? = some x) (hx : Loc X.env.scope x) (h : PD X e ta) (hs : swapsWith e (some (.Name x pos')) pos.line X.env = pure false := by rfl)
    (hf : X.fn x = true ∨ X.env.scope.names.lookup x = some .local := by first | exact .inl rfl | exact .inr rfl | assumption) : PDS X (.Assign [.Name x pos'] e pos) (tdSet i ta) :=
  ⟨PS.weak (ps_set hN hi hx h.pe hs hf) fun D σ H ⟨B, H0, G0, δ, G, R, q⟩ => ⟨B, H0, G0, δ, G, R, h.mono _ _ _ q fun r δ' q v H' G' R' _ _ ok => q _ _ _ (R'.assign ok i)⟩, fun D D' δ w q => h.mono _ _ _ q fun r δ' q => w.nx _ q⟩
theorem pds_expr (h : PD X e ta) (hs : swapsWith e none pos.line X.env = pure false := by rfl) : PDS X (.Expr e pos) (tdDrop ta) :=
  ⟨PS.weak (ps_expr h.pe hs) fun D σ H ⟨B, H0, G0, δ, G, R, q⟩ => ⟨B, H0, G0, δ, G, R, h.mono _ _ _ q fun r δ' q v H' G' R' _ _ ok => q _ _ _ R'⟩, fun D D' δ w q => h.mono _ _ _ q fun r δ' q => w.nx _ q⟩
end
/-! ### a def from its body -/
def startD (N : List Str) (rs : List Sl) : List Sl := rs ++ List.replicate (N.length - rs.length) .no
theorem argsOk_get {K : PySem.W.Frag} {B : Bg} {G : Hp} : ∀ {vs : List V} {rs : List Sl} {i : Nat} {r : Sl}, ArgsOk K B G vs rs → rs[i]? = some r → ∃ v, vs[i]? = some v ∧ ArgOk K B G v r
  | v :: vs, r :: rs, 0, _, h, e => by cases e; exact ⟨v, rfl, h.1⟩
  | v :: vs, r :: rs, i + 1, _, h, e => argsOk_get (i := i) h.2 (by simpa using e)
  | [], [], _, _, _, e => by simp at e
  | [], _ :: _, _, _, h, _ => h.elim
  | _ :: _, [], _, _, h, _ => h.elim
theorem rel_start {K : PySem.W.Frag} {B : Bg} {H G : Hp} {N : List Str} {vs : List V} {rs : List Sl} (sub : Same G H) (bag : ∀ b c, (b, c) ∈ B → BagOk H G b c) (sz : HSz H) (oks : ArgsOk K B G vs rs) : Rel K B H G H (start N vs) (startD N rs) G := by
  have el := oks.len
  have low : ∀ (i : Nat) (r : Sl), (startD N rs)[i]? = some r → r = .no ∨ ∃ v, (start N vs)[i]? = some (some v) ∧ ArgOk K B G v r := fun i r e => by
    unfold startD at e
    by_cases hi : i < rs.length
    · rw [List.getElem?_append_left hi] at e
      obtain ⟨v, ev, ok⟩ := argsOk_get oks e
      refine .inr ⟨v, ?_, ok⟩
      unfold L2.start
      rw [List.getElem?_append_left (by rw [List.length_map, el]; exact hi), List.getElem?_map, ev]
      rfl
    · rw [List.getElem?_append_right (by omega), List.getElem?_replicate] at e
      split at e
      · cases e; exact .inl rfl
      · cases e
  have noOwn : ∀ i a, ¬ Own (start N vs) (startD N rs) i a := fun i a ⟨_, s, e2, io⟩ => by
    rcases low i s e2 with rfl | ⟨v, _, ok⟩
    · cases io
    · cases s <;> first | exact ok.elim | cases io
  refine ⟨sub, Same.refl _, fun a o e _ => e, ?_, fun i s e => ?_, fun i j a h => (noOwn i a h).elim, fun i a h => (noOwn i a h).elim, bag, fun a o e => .inl e, sz⟩
  · unfold L2.start startD
    rw [List.length_append, List.length_append, List.length_map, List.length_replicate, List.length_replicate, el]
  · rcases low i s e with z | ⟨v, ev, ok⟩
    · exact .inl z
    · refine .inr ⟨v, ev, ?_⟩
      cases s <;> first | exact ok | exact ok.elim
section
variable {P : Program} {w : World} {K : PySem.W.Frag} {mg : Str → Option Value} {base : Heap} {x qual : Str} {st : Stmt} {f : Addr} {fd : FuncData} {N ps : List Str} {k n : Nat} {t : TF}
theorem body_run {X : Cx} {sts : List Stmt} {tS : TDS} {H : Hp} {vs : List V} {Q : VK} {E : XK} (hX : X.K = K) (h : PDSs X sts tS) (le : ∀ rs (Q : Sl → Prop), t rs Q → tS { nx := fun _ => Q (.dt .non), rt := fun r _ => Q r } (startD N rs)) (want : spD K n t vs H Q E) :
    tyS X tS { nx := fun _ H2 => Q .non H2, rt := Q } (start N vs) H := by
  subst hX
  obtain ⟨_, B, G, rs, sub, bag, sz, oks, q⟩ := want
  refine ⟨B, H, G, _, G, rel_start sub bag sz oks, h.mono _ _ _ (?_ : EndsD.le { nx := fun _ => ∀ v H' G', RetOk X.K B H G H' G' v (.dt .non) → Q v H', rt := fun r _ => ∀ v H' G', RetOk X.K B H G H' G' v r → Q v H' } _) (le rs _ q)⟩
  exact ⟨fun δ q σ' H' G' R' => q .non H' G' ⟨R'.g0, R'.sub, R'.bag, fun a o e n => R'.ent a o e n, R'.sz, R'.gn, .non, fun z => (nomatch z), fun z => (nomatch z)⟩,
    fun r δ q v σ' H' G' R' ok => q v H' G' ⟨R'.g0, R'.sub, R'.bag, fun a o e n => R'.ent a o e n, R'.sz, R'.gn, ok.1, ok.2.1, fun io a e => (ok.2.2 io a e).1⟩, fun _ q => q.elim, fun _ q => q.elim, fun _ _ _ _ q => q.elim⟩
theorem fnD (F : Fun K x qual st f fd) (S : FnScope N ps (defScope st)) (hn : ps.length = n)
    (hb : ∀ (cdv : Value) (A : Around) (outer : List Env) (s : Shared) (H : Hp) (E : XK), Room k (A.deeper (envOfC qual (defScope st) s.heap.objs.size f cdv)) →
      ∃ tS, PDSs (cxOf CX0 P w K mg base N qual (defScope st) f cdv A outer s H E).nox (defBody st) tS ∧ ∀ rs (Q : Sl → Prop), t rs Q → tS { nx := fun _ => Q (.dt .non), rt := fun r _ => Q r } (startD N rs)) :
    FnOk P w K mg base CX0 (k + 1) f fd ps (spD K n t) :=
  F.ok S (fun vs H Q E h => h.1.trans hn.symm) fun cdv A outer s H vs Q E hr want => by
    obtain ⟨tS, h, le⟩ := hb cdv A outer s H E hr
    exact ⟨_, h.ps, body_run (X := (cxOf CX0 P w K mg base N qual (defScope st) f cdv A outer s H E).nox) rfl h le want⟩
theorem fnDG (F : Fun K x qual st f fd) (S : FnScope N ps (defScope st)) (hn : ps.length = n)
    (hb : ∀ (cdv : Value) (A : Around) (outer : List Env) (s : Shared) (H : Hp) (E : XK), Ng A → Room k (A.deeper (envOfC qual (defScope st) s.heap.objs.size f cdv)) →
      ∃ tS, PDSs (cxOf CX0 P w K mg base N qual (defScope st) f cdv A outer s H E).nox (defBody st) tS ∧ ∀ rs (Q : Sl → Prop), t rs Q → tS { nx := fun _ => Q (.dt .non), rt := fun r _ => Q r } (startD N rs)) :
    FnG P w K mg base (k + 1) f fd ps (spD K n t) :=
  fun_okG F S (fun vs H Q E h => h.1.trans hn.symm) fun cdv A outer s H vs Q E gd hr want => by
    obtain ⟨tS, h, le⟩ := hb cdv A outer s H E gd hr
    exact ⟨_, h.ps, body_run (X := (cxOf CX0 P w K mg base N qual (defScope st) f cdv A outer s H E).nox) rfl h le want⟩
end
end DL

set_option Elab.async false
set_option linter.all false
set_option maxRecDepth 100000
set_option maxHeartbeats 2000000
/-! DL8: what is walked, targets, for, comprehensions over data. -/
namespace DL
open PySem PySem.Spec PyProof.Rows L2
/-! ### what is walked -/
def ItOk (K : PySem.W.Frag) (G : Hp) (J : It) (xs : List D) : Prop := ∀ (B : Bg) (H0 G0 H : Hp) (σ : L2.St) (δ : List Sl) (G2 : Hp), Rel K B H0 G0 H σ δ G2 → Same G G2 →
  (∀ (i : Nat) (d : D), xs[i]? = some d → J.go i H ∧ ∀ x H3, J.yld i H x H3 → ∃ G3, Rel K B H0 G0 H3 σ δ G3 ∧ Same G2 G3 ∧ Fra B H H3 ∧ Dd K G3 x d) ∧ J.stop xs.length H
abbrev TDI := List Sl → (List D → List Sl → Prop) → Prop
def MonoI (t : TDI) : Prop := ∀ δ (Q Q' : List D → List Sl → Prop), t δ Q → (∀ b δ', Q b δ' → Q' b δ') → t δ Q'
def AftI (K : PySem.W.Frag) (B : Bg) (H0 G0 H : Hp) (σ : L2.St) (G : Hp) (R : It → Hp → Prop) : List D → List Sl → Prop := fun xs δ' => ∀ J H' G', Rel K B H0 G0 H' σ δ' G' → Same G G' → Fra B H H' → ItOk K G' J xs → R J H'
def tyI (K : PySem.W.Frag) (t : TDI) : TI := fun σ H R => ∃ B H0 G0 δ G, Rel K B H0 G0 H σ δ G ∧ t δ (AftI K B H0 G0 H σ G R)
structure PDI (X : Cx) (tg e : Expr) (t : TDI) : Prop where
  pi : PI X tg e (tyI X.K t)
  mono : MonoI t
theorem PI.weak {X : Cx} {tg e : Expr} {t t' : TI} (h : PI X tg e t) (w : ∀ σ H R, t' σ H R → t σ H R) : PI X tg e t' := ⟨fun pins s σ H R I q => h.run pins s σ H R I (w σ H R q)⟩
theorem pi_or {X : Cx} {tg e : Expr} {t t' : TI} (h : PI X tg e t) (h' : PI X tg e t') : PI X tg e (fun σ H R => t σ H R ∨ t' σ H R) := ⟨fun pins s σ H R I q => by
  rcases q with q | q
  · exact h.run pins s σ H R I q
  · exact h'.run pins s σ H R I q⟩
section
variable {K : PySem.W.Frag} {G : Hp}
theorem itOk_list {a : Addr} {vs : List V} {xs : List D} (h1 : G a = some (.lst vs)) (h2 : DdA K G vs xs) : ItOk K G (Itl K a) xs := by
  intro B H0 G0 H σ δ G2 R sG
  have hq : SqL K H a vs := SqL.of (R.sub _ _ (sG _ _ h1))
  refine ⟨fun i d e => ?_, ⟨vs, hq, Nat.le_of_eq h2.len⟩⟩
  obtain ⟨v, ev, hv⟩ := h2.get e
  refine ⟨⟨vs, v, hq, ev⟩, fun x H3 y => ?_⟩
  obtain ⟨rfl, y2⟩ := y
  have z := y2 vs hq
  rw [ev] at z; cases z
  exact ⟨G2, R, Same.refl _, Fra.refl _ _, Dd.mono sG _ _ hv⟩
theorem itOk_tup {a : Addr} {vs : List V} {xs : List D} (h1 : SqT K G a vs) (h2 : DdA K G vs xs) : ItOk K G (Itt K a) xs := by
  intro B H0 G0 H σ δ G2 R sG
  have hq : SqT K H a vs := sameT R.sub (sameT sG h1)
  refine ⟨fun i d e => ?_, ⟨vs, hq, Nat.le_of_eq h2.len⟩⟩
  obtain ⟨v, ev, hv⟩ := h2.get e
  refine ⟨⟨vs, v, hq, ev⟩, fun x H3 y => ?_⟩
  obtain ⟨rfl, y2⟩ := y
  have z := y2 vs hq
  rw [ev] at z; cases z
  exact ⟨G2, R, Same.refl _, Fra.refl _ _, Dd.mono sG _ _ hv⟩
/-- lo, lo + 1, .. -/
def zs (lo : Int) : Nat → List D
  | 0 => []
  | n + 1 => .int lo :: zs (lo + 1) n
theorem zs_len : ∀ (n : Nat) (lo : Int), (zs lo n).length = n
  | 0, _ => rfl
  | n + 1, lo => by show (zs (lo + 1) n).length + 1 = n + 1; rw [zs_len n]
theorem zs_get : ∀ (n i : Nat) (lo : Int) (d : D), (zs lo n)[i]? = some d → i < n ∧ d = .int (lo + i)
  | 0, _, _, _, e => by simp [zs] at e
  | n + 1, 0, lo, d, e => by cases e; exact ⟨Nat.succ_pos _, by simp⟩
  | n + 1, i + 1, lo, d, e => by
    obtain ⟨h1, h2⟩ := zs_get n i (lo + 1) d (by simpa [zs] using e)
    refine ⟨Nat.succ_lt_succ h1, h2.trans ?_⟩
    congr 1
    push_cast
    omega
theorem itOk_rng (lo : Int) (n : Nat) : ItOk K G (Itr lo n) (zs lo n) := by
  intro B H0 G0 H σ δ G2 R sG
  refine ⟨fun i d e => ?_, by show n ≤ (zs lo n).length; rw [zs_len]; exact Nat.le_refl _⟩
  obtain ⟨h1, rfl⟩ := zs_get n i lo d e
  refine ⟨h1, fun x H3 y => ?_⟩
  obtain ⟨rfl, rfl⟩ := y
  exact ⟨G2, R, Same.refl _, Fra.refl _ _, .int _⟩
/-- (0, x0), (1, x1), .. -/
def enumD (k : Nat) : List D → List D
  | [] => []
  | d :: ds => .tup [.int (k : Nat), d] :: enumD (k + 1) ds
theorem enumD_len : ∀ (ds : List D) (k : Nat), (enumD k ds).length = ds.length
  | [], _ => rfl
  | d :: ds, k => by show (enumD (k + 1) ds).length + 1 = ds.length + 1; rw [enumD_len ds]
theorem enumD_get : ∀ (ds : List D) (k i : Nat) (d : D), (enumD k ds)[i]? = some d → ∃ x, ds[i]? = some x ∧ d = .tup [.int ((k + i : Nat)), x]
  | [], _, _, _, e => by simp [enumD] at e
  | x :: ds, k, 0, d, e => by cases e; exact ⟨x, rfl, rfl⟩
  | x :: ds, k, i + 1, d, e => by
    obtain ⟨y, h1, h2⟩ := enumD_get ds (k + 1) i d (by simpa [enumD] using e)
    refine ⟨y, by simpa using h1, h2.trans ?_⟩
    rw [show k + 1 + i = k + (i + 1) by omega]
theorem itOk_enum {a : Addr} {vs : List V} {xs : List D} (h1 : G a = some (.lst vs)) (h2 : DdA K G vs xs) : ItOk K G (Ite K a) (enumD 0 xs) := by
  intro B H0 G0 H σ δ G2 R sG
  have hq : SqL K H a vs := SqL.of (R.sub _ _ (sG _ _ h1))
  refine ⟨fun i d e => ?_, ⟨vs, hq, by rw [enumD_len, h2.len]; exact Nat.le_refl _⟩⟩
  obtain ⟨x0, e0, rfl⟩ := enumD_get xs 0 i d e
  obtain ⟨v, ev, hv⟩ := h2.get e0
  refine ⟨⟨vs, v, hq, ev⟩, fun x H3 y => ?_⟩
  obtain ⟨T, x1, rfl, nT, rfl, y2⟩ := y
  have z := y2 vs hq
  rw [ev] at z; cases z
  obtain ⟨R3, s3⟩ := R.laidG (o := .tup [.int (i : Nat), v]) nT (by show (2 : Nat) ≤ sizeLine; decide)
  refine ⟨_, R3, s3, Fra.upd nT, .tup (.inl (.inl upd_same)) (.cons ?_ (.cons (Dd.mono (sG.trans s3) _ _ hv) .nil))⟩
  rw [Nat.zero_add]
  exact .int _
end
def tdOver (t : TD) : TDI := fun δ Q => t δ fun r δ' => match (fz r).bind seqOf with
  | some xs => Q xs δ'
  | none => False
def tdRng1 (t : TDA) : TDI := fun δ Q => t δ fun rs δ' => match rs with
  | [.dt (.int j)] => -(2 ^ 62) ≤ j ∧ j < 2 ^ 62 ∧ Q (zs 0 j.toNat) δ'
  | _ => False
def tdRng2 (t : TDA) : TDI := fun δ Q => t δ fun rs δ' => match rs with
  | [.dt (.int i), .dt (.int j)] => (-(2 ^ 62) ≤ i ∧ i < 2 ^ 62 ∧ -(2 ^ 62) ≤ j ∧ j < 2 ^ 62) ∧ Q (zs i (j - i).toNat) δ'
  | _ => False
def tdEnum (t : TDA) : TDI := fun δ Q => t δ fun rs δ' => match rs with
  | [.dt (.lst xs)] => Q (enumD 0 xs) δ'
  | _ => False
section
variable {X : Cx} {e e2 tg : Expr} {es : List Expr} {pos p tpos : Pos} {ta : TD} {u : TDA}
theorem pi_seq {l : Expr} {tl : TE} (hl : PE X l tl) : PI X tg l (fun σ H R => tl σ H fun x H1 => ∃ a xs, x = .ref a ∧ ((SqL X.K H1 a xs ∧ R (Itl X.K a) H1) ∨ (SqT X.K H1 a xs ∧ R (Itt X.K a) H1))) := by
  constructor
  intro pins s σ H R I h
  refine thn (hl.run pins s σ H _ I h) ?_
  rintro v s1 ⟨x, H1, I1, r1, a, xs, rfl, q⟩
  cases r1
  have fresh := I1.fpOk (Nat.le_refl _) (I1.hok.fresh (Nat.le_refl _))
  have one : ∀ b ∈ [s1.heap.objs.size], FpOk X pins H1 b := fun b hb => by rw [List.mem_singleton.mp hb]; exact fresh
  rcases q with ⟨hq, q⟩ | ⟨hq, q⟩
  · obtain ⟨its, rv, pl, hz⟩ := I1.list hq
    exact wpAny_pyIter_list pl.isList ⟨_, _, _, _, H1, rfl, I1.kept (t' := s1.toks) (fun _ _ e => Heap.get?_push_of_some _ e), turn_list a _, ⟨_, Heap.get?_push_size _ rfl, rfl, rfl⟩, one, q⟩
  · obtain ⟨its, rv, pl, hz⟩ := I1.tuple hq
    exact wpAny_pyIter_tuple (show s1.heap.IsTuple a its.toArray from pl) ⟨_, _, _, _, H1, rfl, I1.kept (t' := s1.toks) (fun _ _ e => Heap.get?_push_of_some _ e), turn_tuple a _, ⟨_, Heap.get?_push_size _ rfl, rfl, rfl⟩, one, q⟩
theorem pdi_over (h : PD X e ta) : PDI X tg e (tdOver ta) := by
  refine ⟨PI.weak (pi_seq (tg := tg) h.pe) fun σ H Rr ⟨B, H0, G0, δ, G, R, q⟩ => ?_, fun δ Q Q' q w => h.mono _ _ _ q fun r δ' q => ?_⟩
  · refine ⟨B, H0, G0, δ, G, R, h.mono _ _ _ q fun r δ1 q v H1 G1 R1 s1 f1 ok => ?_⟩
    split at q
    · rename_i xs e1
      obtain ⟨d, e2, e3⟩ := Option.bind_eq_some_iff.mp e1
      obtain ⟨G2, R2, s2, hd⟩ := freeze R1 ok e2
      cases hd <;> first | cases e3 | skip
      · rename_i a vs g1 g2
        exact ⟨a, vs, rfl, .inl ⟨SqL.of (R2.sub _ _ g1), q _ _ _ R2 (s1.trans s2) f1 (itOk_list g1 g2)⟩⟩
      · rename_i a vs g1 g2
        exact ⟨a, vs, rfl, .inr ⟨sameT R2.sub g1, q _ _ _ R2 (s1.trans s2) f1 (itOk_tup g1 g2)⟩⟩
    · exact q.elim
  · split at q
    · exact w _ _ q
    · exact q
theorem arg2 {K : PySem.W.Frag} {B : Bg} {G : Hp} : ∀ {vs : List V} {d e : D}, ArgsOk K B G vs [.dt d, .dt e] → ∃ v w, vs = [v, w] ∧ Dd K G v d ∧ Dd K G w e
  | [], _, _, h => h.elim
  | [_], _, _, h => h.2.elim
  | [v, w], _, _, h => ⟨v, w, rfl, h.1, h.2.1⟩
  | _ :: _ :: _ :: _, _, _, h => h.2.2.elim
theorem pdi_rng1 (hg : Gl X "range") (hm : X.mg "range" = none) (h : PDA X [e] u) (hs : starEach [e] X.env = [(false, eval e X.env)] := by rfl) : PDI X tg (.Call (.Name "range" p) [e] [] pos) (tdRng1 u) := by
  refine ⟨PI.weak (pi_range1 (tg := tg) hg hm h.pa hs) fun σ H Rr ⟨B, H0, G0, δ, G, R, q⟩ => ⟨B, H0, G0, δ, G, R, h.mono _ _ _ q fun rs δ1 q vs H1 G1 R1 s1 f1 oks => ?_⟩, fun δ Q Q' q w => h.mono _ _ _ q fun r δ' q => ?_⟩
  · split at q
    · obtain ⟨v, rfl, hd⟩ := arg1 oks
      cases hd
      exact ⟨_, rfl, q.1, q.2.1, q.2.2 _ _ _ R1 s1 f1 (itOk_rng 0 _)⟩
    · exact q.elim
  · split at q
    · exact ⟨q.1, q.2.1, w _ _ q.2.2⟩
    · exact q
theorem pdi_rng2 (hg : Gl X "range") (hm : X.mg "range" = none) (h : PDA X [e, e2] u) (rule : PI X tg (.Call (.Name "range" p) [e, e2] [] pos) (iRng2 (tyA X.K u))) : PDI X tg (.Call (.Name "range" p) [e, e2] [] pos) (tdRng2 u) := by
  refine ⟨PI.weak rule fun σ H Rr ⟨B, H0, G0, δ, G, R, q⟩ => ⟨B, H0, G0, δ, G, R, h.mono _ _ _ q fun rs δ1 q vs H1 G1 R1 s1 f1 oks => ?_⟩, fun δ Q Q' q w => h.mono _ _ _ q fun r δ' q => ?_⟩
  · split at q
    · obtain ⟨v, v2, rfl, hd, hd2⟩ := arg2 oks
      cases hd; cases hd2
      exact ⟨_, _, rfl, q.1, q.2 _ _ _ R1 s1 f1 (itOk_rng _ _)⟩
    · exact q.elim
  · split at q
    · exact ⟨q.1, w _ _ q.2⟩
    · exact q
theorem pdi_enum {elts : List Expr} {kk : Nat} (hg : Gl X "enumerate") (hm : X.mg "enumerate" = none) (h : PDA X [e] u) (hs : starEach [e] X.env = [(false, eval e X.env)] := by rfl) : PDI X (.Tuple elts kk tpos) (.Call (.Name "enumerate" p) [e] [] pos) (tdEnum u) := by
  refine ⟨PI.weak (pi_enum hg hm h.pa hs) fun σ H Rr ⟨B, H0, G0, δ, G, R, q⟩ => ⟨B, H0, G0, δ, G, R, h.mono _ _ _ q fun rs δ1 q vs H1 G1 R1 s1 f1 oks => ?_⟩, fun δ Q Q' q w => h.mono _ _ _ q fun r δ' q => ?_⟩
  · split at q
    · obtain ⟨v, rfl, hd⟩ := arg1 oks
      cases hd with
      | lst g1 g2 => exact ⟨_, _, rfl, SqL.of (R1.sub _ _ g1), q _ _ _ R1 s1 f1 (itOk_enum g1 g2)⟩
    · exact q.elim
  · split at q
    · exact w _ _ q
    · exact q
end
/-! ### targets -/
abbrev TDG := D → List Sl → (List Sl → Prop) → Prop
def MonoG (g : TDG) : Prop := ∀ d δ (Q Q' : List Sl → Prop), g d δ Q → (∀ δ', Q δ' → Q' δ') → g d δ Q'
def tyG (K : PySem.W.Frag) (vs : List Nat) (g : TDG) : TG := fun v σ H Q => ∃ B H0 G0 δ G d, Rel K B H0 G0 H σ δ G ∧ Dd K G v d ∧ g d δ (fun δ' => ∀ σ', wipe σ' vs = wipe σ vs → Rel K B H0 G0 H σ' δ' G → Q σ' H)
structure PDG (X : Cx) (tg : Expr) (vs : List Nat) (g : TDG) : Prop where
  pg : PG X tg (tyG X.K vs g)
  mono : MonoG g
theorem PG.weak {X : Cx} {tg : Expr} {t t' : TG} (h : PG X tg t) (w : ∀ v σ H Q, t' v σ H Q → t v σ H Q) : PG X tg t' := ⟨fun pins s σ H v u Q I r q => h.run pins s σ H v u Q I r (w v σ H Q q)⟩
def gdName (i : Nat) : TDG := fun d δ Q => Q (δ.set i (.dt d))
/-- a, b = (x, y) -/
def gdNames (is : List Nat) : TDG := fun d δ Q => match d with
  | .tup ds => ds.length = is.length ∧ Q ((is.zip ds).foldl (fun δ p => δ.set p.1 (.dt p.2)) δ)
  | _ => False
theorem wipe_set {σ : L2.St} {i : Nat} {v : Option V} : ∀ {vs : List Nat}, i ∈ vs → wipe (σ.set i v) vs = wipe σ vs
  | j :: vs, h => by
    unfold wipe
    by_cases hj : i ∈ vs
    · rw [wipe_set hj]
    · have e : j = i := by
        rcases List.mem_cons.mp h with z | z
        · exact z.symm
        · exact absurd z hj
      subst e
      have k : ∀ ws : List Nat, (wipe (σ.set j v) ws).set j none = (wipe σ ws).set j none := by
        intro ws
        induction ws with
        | nil => unfold wipe; rw [List.set_set]
        | cons w ws ih =>
          unfold wipe
          by_cases hw : w = j
          · subst hw; rw [List.set_set, List.set_set]; exact ih
          · rw [List.set_comm _ _ hw, List.set_comm _ _ hw, ih]
      exact k vs
section
variable {X : Cx} {tg : Expr} {pos : Pos}
theorem pdg_name {i : Nat} (h : PG X tg (gName i)) : PDG X tg [i] (gdName i) :=
  ⟨PG.weak h fun v σ H Q ⟨B, H0, G0, δ, G, d, R, hd, q⟩ => q _ (wipe_set (List.mem_singleton.mpr rfl)) (R.assign (resOk_dt hd) i), fun d δ Q Q' q w => w _ q⟩
/-- the names of a tuple's target, by their slots -/
def gNames : List Nat → TGs
  | [] => gNil
  | i :: is => gCons (gName i) (gNames is)
theorem gNames_run {K : PySem.W.Frag} {B : Bg} {H0 G0 H G : Hp} {vs0 : List Nat} {σ0 : L2.St} {Q : L2.St → Hp → Prop} : ∀ (is : List Nat) (vs : List V) (ds : List D) (σ : L2.St) (δ : List Sl), (∀ i ∈ is, i ∈ vs0) → wipe σ vs0 = wipe σ0 vs0 → Rel K B H0 G0 H σ δ G → DdA K G vs ds → ds.length = is.length →
    (∀ σ', wipe σ' vs0 = wipe σ0 vs0 → Rel K B H0 G0 H σ' ((is.zip ds).foldl (fun δ p => δ.set p.1 (.dt p.2)) δ) G → Q σ' H) → gNames is vs σ H Q
  | [], _, [], σ, δ, _, w, R, h, _, q => by cases h; exact ⟨rfl, q σ w R⟩
  | i :: is, _, d :: ds, σ, δ, hi, w, R, h, e, q => by
    cases h with
    | @cons v vs _ _ h1 h2 =>
      exact ⟨v, vs, rfl, gNames_run is vs ds _ _ (fun j hj => hi j (List.mem_cons_of_mem _ hj)) ((wipe_set (hi i List.mem_cons_self)).trans w) (R.assign (resOk_dt h1) i) h2 (by simpa using e) q⟩
  | [], _, _ :: _, _, _, _, _, _, _, e, _ => by simp at e
  | _ :: _, _, [], _, _, _, _, _, _, e, _ => by simp at e
theorem pdg_names {es : List Expr} {kk n : Nat} {is : List Nat} (h : PG X (.Tuple es kk pos) (gTup X.K n (gNames is))) (hn : is.length = n) : PDG X (.Tuple es kk pos) is (gdNames is) := by
  refine ⟨PG.weak h fun v σ H Q ⟨B, H0, G0, δ, G, d, R, hd, q⟩ => ?_, fun d δ Q Q' q w => ?_⟩
  · unfold gdNames at q
    split at q
    · rename_i ds
      cases hd with
      | @tup a vs _ h1 h2 =>
        exact ⟨a, vs, rfl, sameT R.sub h1, (h2.len.trans q.1).trans hn, gNames_run is vs ds σ δ (fun _ z => z) rfl R h2 q.1 q.2⟩
    · exact q.elim
  · unfold gdNames at q ⊢
    split at q
    · exact ⟨q.1, w _ q.2⟩
    · exact q
end
/-! ### for -/
def forD (g : TDG) (tb : TDS) (D : EndsD) : List DL.D → List Sl → Prop
  | [], δ => D.nx δ
  | d :: ds, δ => g d δ fun δ1 => tb { D with nx := forD g tb D ds, ct := forD g tb D ds, bk := D.nx } δ1
def tdFor (ti : TDI) (g : TDG) (tb : TDS) : TDS := fun D δ => ti δ fun xs δ' => forD g tb D xs δ'
theorem forD_mono {g : TDG} {tb : TDS} (mg : MonoG g) (mb : MonoS tb) {D D' : EndsD} (w : EndsD.le D D') : ∀ (ds : List DL.D) (δ : List Sl), forD g tb D ds δ → forD g tb D' ds δ
  | [], δ, h => w.nx δ h
  | d :: ds, δ, h => mg _ _ _ _ h fun δ1 q => mb { D with nx := forD g tb D ds, ct := forD g tb D ds, bk := D.nx } { D' with nx := forD g tb D' ds, ct := forD g tb D' ds, bk := D'.nx } _ ⟨fun δ' q => forD_mono mg mb w ds δ' q, w.rt, fun δ' q => w.nx _ q, fun δ' q => forD_mono mg mb w ds δ' q, w.ex⟩ q
section
variable {K : PySem.W.Frag} {B : Bg} {H0 G0 H H' G G' : Hp} {σ : L2.St} {δ : List Sl}
theorem Rel.rebase (R : Rel K B H0 G0 H σ δ G) : Rel K B H0 G H σ δ G := ⟨R.sub, Same.refl _, R.ent, R.len, R.sl, R.sep, R.own, R.bag, fun _ _ e => .inl e, R.sz⟩
theorem Rel.back (R : Rel K B H0 G0 H σ δ G) {H2 G2 : Hp} {σ2 : L2.St} {δ2 : List Sl} (R2 : Rel K B H0 G H2 σ2 δ2 G2) : Rel K B H0 G0 H2 σ2 δ2 G2 :=
  ⟨R2.sub, R.g0.trans R2.g0, R2.ent, R2.len, R2.sl, R2.sep, R2.own, R2.bag, fun a o e => (R2.gn a o e).elim (fun z => R.gn a o z) .inr, R2.sz⟩
end
section
variable {X : Cx} {tg iter : Expr} {body : List Stmt} {pos : Pos} {ti : TDI} {vs : List Nat} {g : TDG} {tb : TDS}
theorem pds_for (hp : PassesOwn (model X.prog X.w) X.A X.env X.xe) (hc : X.calm = true) (hi : PDI X tg iter ti) (hg : PDG X tg vs g) (hb : PDSs X body tb) (hs : ∀ x, foldedSetIterable iter X.env x = pure x := by intro _; rfl) :
    PDS X (.For tg iter body [] pos) (tdFor ti g tb) := by
  refine ⟨PS.weak (ps_for hp hc hi.pi hg.pg hb.ps hs) fun D σ H ⟨B, H0, G0, δ, G, R, q⟩ => ?_, fun D D' δ w q => hi.mono _ _ _ q fun xs δ' q => forD_mono hg.mono hb.mono w xs δ' q⟩
  refine ⟨B, H0, G0, δ, G, R, hi.mono _ _ _ q fun xs δ1 q J H1 G1 R1 s1 f1 it => ?_⟩
  refine ⟨fun i m σ' H' => i + m = xs.length ∧ ∃ δ' G', Rel X.K B H0 G1 H' σ' δ' G' ∧ forD g tb (endsOf X B H0 G0 D) (xs.drop i) δ', ⟨xs.length, by omega, δ1, G1, R1.rebase, by simpa using q⟩, fun i m σ' H' hW => ?_⟩
  obtain ⟨em, δ', G', R', q'⟩ := hW
  obtain ⟨each, stop⟩ := it B H0 G1 H' σ' δ' G' R' R'.g0
  by_cases hi' : i < xs.length
  · obtain ⟨go, yld⟩ := each i xs[i] (List.getElem?_eq_getElem hi')
    rw [List.drop_eq_getElem_cons hi'] at q'
    refine .inr ⟨go, fun σ2 H2 => ∃ δ2 G2, Rel X.K B H0 G1 H2 σ2 δ2 G2 ∧ forD g tb (endsOf X B H0 G0 D) (xs.drop (i + 1)) δ2, fun σ2 H2 ⟨δ2, G2, R2, q2⟩ => ⟨m - 1, by omega, by omega, δ2, G2, R2, q2⟩, fun x H3 y => ?_⟩
    obtain ⟨G3, R3, s3, f3, hd⟩ := yld x H3 y
    refine ⟨B, H0, G1, δ', G3, xs[i], R3, hd, hg.mono _ _ _ _ q' fun δ4 q4 σ4 _ R4 => ⟨B, H0, G1, δ4, G3, R4, hb.mono _ _ _ ?_ q4⟩⟩
    exact ⟨fun δ5 q5 σ5 H5 G5 R5 => ⟨δ5, G5, R5, q5⟩, fun r δ5 q5 v σ5 H5 G5 R5 ok => q5 v σ5 H5 G5 (R1.back R5) ok, fun δ5 q5 σ5 H5 G5 R5 => q5 σ5 H5 G5 (R1.back R5), fun δ5 q5 σ5 H5 G5 R5 => ⟨δ5, G5, R5, q5⟩, fun C ns ds δ5 q5 σ5 H5 G5 dd xs R5 => q5 σ5 H5 G5 dd xs (R1.back R5)⟩
  · have ei : i = xs.length := by omega
    subst ei
    rw [List.drop_length] at q'
    exact .inl ⟨stop, q' σ' H' G' (R1.back R')⟩
end
end DL

set_option Elab.async false
set_option linter.all false
set_option maxRecDepth 100000
set_option maxHeartbeats 2000000
/-! DL9: list comprehensions over data; owned lists changed; slots frozen ahead. -/
namespace DL
open PySem PySem.Spec PyProof.Rows L2
/-! ### slots shared ahead of an expression -/
def frzAt (i : Nat) (δ : List Sl) : List Sl := match δ[i]? with
  | some s => if s.isOwn = true then match fz s with
      | some d => δ.set i (.dt d)
      | none => δ
    else δ
  | none => δ
def frzAll : List Nat → List Sl → List Sl
  | [], δ => δ
  | i :: is, δ => frzAll is (frzAt i δ)
section
variable {K : PySem.W.Frag} {B : Bg} {H0 G0 H H' G G' : Hp} {σ : L2.St} {δ : List Sl}
theorem Rel.frz1 (R : Rel K B H0 G0 H σ δ G) (i : Nat) : ∃ G', Rel K B H0 G0 H σ (frzAt i δ) G' ∧ Same G G' := by
  unfold frzAt
  split
  · rename_i s e
    split
    · rename_i io
      split
      · rename_i d ed
        obtain ⟨G', v, R', sG, _⟩ := R.freezeAt e io ed
        exact ⟨G', R', sG⟩
      · exact ⟨G, R, Same.refl _⟩
    · exact ⟨G, R, Same.refl _⟩
  · exact ⟨G, R, Same.refl _⟩
theorem Rel.frzs : ∀ (is : List Nat) {δ : List Sl} {G : Hp}, Rel K B H0 G0 H σ δ G → ∃ G', Rel K B H0 G0 H σ (frzAll is δ) G' ∧ Same G G'
  | [], _, G, R => ⟨G, R, Same.refl _⟩
  | i :: is, _, G, R => by
    obtain ⟨G1, R1, s1⟩ := R.frz1 i
    obtain ⟨G2, R2, s2⟩ := Rel.frzs is R1
    exact ⟨G2, R2, s1.trans s2⟩
end
def tdFrz (is : List Nat) (t : TD) : TD := fun δ Q => t (frzAll is δ) Q
theorem pd_frz {X : Cx} {e : Expr} {t : TD} (is : List Nat) (h : PD X e t) : PD X e (tdFrz is t) :=
  ⟨PE.weak h.pe fun σ H Q ⟨B, H0, G0, δ, G, R, q⟩ => by
    obtain ⟨G', R', sG⟩ := Rel.frzs is R
    exact ⟨B, H0, G0, _, G', R', h.mono _ _ _ q fun r δ' q v H' G2 R2 s2 f2 ok => q v H' G2 R2 (sG.trans s2) f2 ok⟩, fun δ Q Q' q w => h.mono _ _ _ q w⟩
/-! ### comprehensions -/
def wipeD (δ : List Sl) : List Nat → List Sl
  | [] => δ
  | v :: vs => (wipeD δ vs).set v .no
def hideOwn (δ : List Sl) : List Sl := δ.map fun s => if s.isOwn = true then .no else s
/-- one turn after another; the state within stays as it is -/
def compD (g : TDG) (tt : TDT) (te : TD) (δw : List Sl) : List D → List D → (List D → Prop) → Prop
  | [], acc, Q => Q acc
  | d :: ds, acc, Q => g d δw fun δ1 => tt δ1 fun b δ2 => δ2 = δ1 ∧ (if b = true then te δ1 fun r δ3 => δ3 = δ1 ∧ match fz r with
      | some y => compD g tt te δw ds (acc ++ [y]) Q
      | none => False
    else compD g tt te δw ds acc Q)
def tdLc (ti : TDI) (g : TDG) (tt : TDT) (te : TD) (vs : List Nat) : TD := fun δ Q => ti δ fun xs δ1 => xs.length ≤ sizeLine ∧ compD g tt te (wipeD (hideOwn δ1) vs) xs [] fun ys => Q (.ol ys) δ1
theorem compD_mono {g : TDG} {tt : TDT} {te : TD} (mg : MonoG g) (mt : MonoT tt) (me : MonoD te) {δw : List Sl} {Q Q' : List D → Prop} (w : ∀ ys, Q ys → Q' ys) : ∀ (ds acc : List D), compD g tt te δw ds acc Q → compD g tt te δw ds acc Q'
  | [], acc, h => w _ h
  | d :: ds, acc, h => mg _ _ _ _ h fun δ1 h => mt _ _ _ h fun b δ2 h => ⟨h.1, by
      have h2 := h.2
      split
      · rename_i hb
        rw [if_pos hb] at h2
        refine me _ _ _ h2 fun r δ3 h3 => ⟨h3.1, ?_⟩
        have h4 := h3.2
        split at h4
        · rename_i y e; exact compD_mono mg mt me w ds _ h4
        · exact h4
      · rename_i hb
        rw [if_neg hb] at h2
        exact compD_mono mg mt me w ds _ h2⟩
section
variable {K : PySem.W.Frag} {B : Bg} {H0 G0 H H' G G' : Hp} {σ : L2.St} {δ : List Sl}
theorem Rel.wipe1 (R : Rel K B H0 G0 H σ δ G) (i : Nat) : Rel K B H0 G0 H (σ.set i none) (δ.set i .no) G := by
  have back : ∀ j a, Own (σ.set i none) (δ.set i .no) j a → Own σ δ j a := fun j a ⟨e, s, e2, io⟩ => by
    rcases getSet e2 with ⟨h1, h2, h3⟩ | ⟨h1, h2⟩ | ⟨_, _, h⟩
    · subst h3; cases io
    · rw [List.getElem?_set_ne h1] at e
      exact ⟨e, s, h2, io⟩
    · exact h.elim
  refine ⟨R.sub, R.g0, R.ent, by rw [List.length_set, List.length_set]; exact R.len, fun j s e => ?_, fun j k a h1 h2 => R.sep j k a (back j a h1) (back k a h2), fun j a h => R.own j a (back j a h), R.bag, R.gn, R.sz⟩
  rcases getSet e with ⟨h1, h2, h3⟩ | ⟨h1, h2⟩ | ⟨_, _, h⟩
  · exact .inl h3
  · rw [List.getElem?_set_ne h1]; exact R.sl j s h2
  · exact h.elim
theorem Rel.wipes (R : Rel K B H0 G0 H σ δ G) : ∀ vs : List Nat, Rel K B H0 G0 H (wipe σ vs) (wipeD δ vs) G
  | [] => R
  | v :: vs => (Rel.wipes R vs).wipe1 v
theorem wipe_wipe (σ : L2.St) (vs : List Nat) : wipe (wipe σ vs) vs = wipe σ vs := by
  have one : ∀ (ws us : List Nat) (τ : L2.St), (∀ i ∈ ws, i ∈ us) → wipe (wipe τ ws) us = wipe τ us := by
    intro ws us
    induction ws with
    | nil => intro τ _; rfl
    | cons w ws ih =>
      intro τ h
      show wipe ((wipe τ ws).set w none) us = wipe τ us
      rw [wipe_set (h w List.mem_cons_self)]
      exact ih τ fun i hi => h i (List.mem_cons_of_mem _ hi)
  exact one vs vs σ fun _ h => h
theorem hide_get {δ : List Sl} {i : Nat} {s : Sl} (h : (hideOwn δ)[i]? = some s) : s.isOwn = false ∧ (s = .no ∨ δ[i]? = some s) := by
  unfold hideOwn at h
  rw [List.getElem?_map] at h
  cases e : δ[i]? with
  | none => rw [e] at h; cases h
  | some u =>
    rw [e] at h
    cases io : u.isOwn with
    | true => simp [io] at h; subst h; exact ⟨rfl, .inl rfl⟩
    | false => simp [io] at h; subst h; exact ⟨io, .inr rfl⟩
/-- into a bracket: all that stands is kept, nothing is owned -/
theorem Rel.inner (R : Rel K B H0 G0 H σ δ G) : Rel K B H G H σ (hideOwn δ) G := by
  have no : ∀ i a, ¬ Own σ (hideOwn δ) i a := fun i a ⟨_, s, e, io⟩ => by rw [(hide_get e).1] at io; cases io
  refine ⟨R.sub, Same.refl _, fun _ _ e _ => e, by unfold hideOwn; rw [List.length_map]; exact R.len, fun i s e => ?_, fun i j a h => (no i a h).elim, fun i a h => (no i a h).elim, R.bag, fun _ _ e => .inl e, R.sz⟩
  rcases (hide_get e).2 with z | z
  · exact .inl z
  · exact R.sl i s z
/-- out of it -/
theorem Rel.outer (R : Rel K B H0 G0 H σ δ G) {σ2 : L2.St} {δ2 : List Sl} (R2 : Rel K B H G H' σ2 δ2 G') : Rel K B H0 G0 H' σ δ G' := by
  have gN : ∀ i a, Own σ δ i a → G' a = none := fun i a oa => by
    obtain ⟨s, _, _, h⟩ := R.at oa
    obtain ⟨x, hx⟩ := h.there
    cases q : G' a with
    | none => rfl
    | some o =>
      rcases R2.gn a o q with z | z
      · rw [(R.own i a oa).2.1] at z; cases z
      · rw [z] at hx; cases hx
  refine ⟨R2.sub, R.g0.trans R2.g0, fun a o e n => R2.ent a o (R.ent a o e n) n, R.len, fun i s e => ?_, R.sep, fun i a oa => ⟨(R.own i a oa).1, gN i a oa, (R.own i a oa).2.2⟩, R2.bag, fun a o e => ?_, R2.sz⟩
  · rcases R.sl i s e with z | ⟨v, ev, ok⟩
    · exact .inl z
    · refine .inr ⟨v, ev, ?_⟩
      cases s with
      | no => trivial
      | dt d => exact Dd.mono R2.g0 d v ok
      | bag => exact ok
      | cnt => exact ok
      | xcp _ _ _ _ _ => exact xcp_mono R2.g0 ok
      | ol ds =>
        obtain ⟨a, ea, ga, h⟩ := ok
        have oa : Own σ δ i a := ⟨ea ▸ ev, _, e, rfl⟩
        exact ⟨a, ea, gN i a oa, h.up (fun o q => R2.ent a o q (R.own i a oa).2.2) R2.g0⟩
      | oK ks ds =>
        obtain ⟨a, ea, ga, h⟩ := ok
        have oa : Own σ δ i a := ⟨ea ▸ ev, _, e, rfl⟩
        exact ⟨a, ea, gN i a oa, h.up (fun o q => R2.ent a o q (R.own i a oa).2.2) R2.g0⟩
      | oT ks ds =>
        obtain ⟨a, ea, ga, h⟩ := ok
        have oa : Own σ δ i a := ⟨ea ▸ ev, _, e, rfl⟩
        exact ⟨a, ea, gN i a oa, h.up (fun o q => R2.ent a o q (R.own i a oa).2.2) R2.g0⟩
      | oI x0 C ks ds =>
        obtain ⟨a, ea, ga, h⟩ := ok
        have oa : Own σ δ i a := ⟨ea ▸ ev, _, e, rfl⟩
        exact ⟨a, ea, gN i a oa, h.up (fun o q => R2.ent a o q (R.own i a oa).2.2) R2.g0⟩
      | oL x0 ds =>
        obtain ⟨a, ea, ga, h⟩ := ok
        have oa : Own σ δ i a := ⟨ea ▸ ev, _, e, rfl⟩
        exact ⟨a, ea, gN i a oa, h.up (fun o q => R2.ent a o q (R.own i a oa).2.2) R2.g0⟩
  · rcases R2.gn a o e with z | z
    · exact R.gn a o z
    · exact .inr (R.new0 z)
/-- a thing that is nobody's is changed -/
theorem Rel.writeFree (R : Rel K B H0 G0 H σ δ G) {p : Addr} {o : HO} (h0 : H0 p = none) (gp : G p = none) (nb : NotB B p) (no : ∀ i, ¬ Own σ δ i p) (so : SzO o) : Rel K B H0 G0 (upd H p o) σ δ G := by
  refine ⟨fun b x e => by rw [upd_ne (ne_of_none e gp)]; exact R.sub _ _ e, R.g0, fun a x e n => by rw [upd_ne (ne_of_none e h0)]; exact R.ent a x e n, R.len, fun i s e => ?_, R.sep, R.own, fun b c e => ?_, R.gn, R.sz.upd so⟩
  · rcases R.sl i s e with z | ⟨v, ev, ok⟩
    · exact .inl z
    · refine .inr ⟨v, ev, ?_⟩
      cases s with
      | no => trivial
      | dt d => exact ok
      | bag => exact ok
      | cnt => exact ok
      | xcp _ _ _ _ _ => first | exact ok | exact xcp_mono (by assumption) ok | exact xcp_mono k.gg ok
      | ol ds =>
        obtain ⟨a, ea, ga, h⟩ := ok
        have ne : a ≠ p := fun z => no i (z ▸ ⟨ea ▸ ev, _, e, rfl⟩)
        exact ⟨a, ea, ga, h.up (fun o q => by rw [upd_ne ne]; exact q) (Same.refl _)⟩
      | oK ks ds =>
        obtain ⟨a, ea, ga, h⟩ := ok
        have ne : a ≠ p := fun z => no i (z ▸ ⟨ea ▸ ev, _, e, rfl⟩)
        exact ⟨a, ea, ga, h.up (fun o q => by rw [upd_ne ne]; exact q) (Same.refl _)⟩
      | oT ks ds =>
        obtain ⟨a, ea, ga, h⟩ := ok
        have ne : a ≠ p := fun z => no i (z ▸ ⟨ea ▸ ev, _, e, rfl⟩)
        exact ⟨a, ea, ga, h.up (fun o q => by rw [upd_ne ne]; exact q) (Same.refl _)⟩
      | oI x0 C ks ds =>
        obtain ⟨a, ea, ga, h⟩ := ok
        have ne : a ≠ p := fun z => no i (z ▸ ⟨ea ▸ ev, _, e, rfl⟩)
        exact ⟨a, ea, ga, h.up (fun o q => by rw [upd_ne ne]; exact q) (Same.refl _)⟩
      | oL x0 ds =>
        obtain ⟨a, ea, ga, h⟩ := ok
        have ne : a ≠ p := fun z => no i (z ▸ ⟨ea ▸ ev, _, e, rfl⟩)
        exact ⟨a, ea, ga, h.up (fun o q => by rw [upd_ne ne]; exact q) (Same.refl _)⟩
  · have ne : b ≠ p := fun z => nb c (z ▸ e)
    exact (R.bag b c e).up (upd_ne ne) (Same.refl _) (R.bag b c e).gn
end
structure PDTs (X : Cx) (ifs : List Expr) (t : TDT) : Prop where
  pt : PTs X ifs (tyT X.K t)
  mono : MonoT t
theorem PTs.weak {X : Cx} {e : List Expr} {t t' : TT} (h : PTs X e t) (w : ∀ σ H Q, t' σ H Q → t σ H Q) : PTs X e t' := ⟨fun pins s σ H Q I q => h.run pins s σ H Q I (w σ H Q q)⟩
def tdYes : TDT := fun δ Q => Q true δ
theorem pdts_nil {X : Cx} : PDTs X [] tdYes := ⟨PTs.weak pts_nil fun σ H Q ⟨B, H0, G0, δ, G, R, q⟩ => q H G R (Same.refl _) (Fra.refl _ _), fun _ _ _ q w => w _ _ q⟩
theorem pdts_one {X : Cx} {c : Expr} {t : TDT} (h : PDT X c t) : PDTs X [c] t := ⟨pts_one h.pt, h.mono⟩
section
variable {X : Cx} {elt tg iter : Expr} {ifs : List Expr} {scope : Scope} {own : List (Str × Nat)} {pos : Pos} {ti : TDI} {g : TDG} {tt : TDT} {te : TD} {vs : List Nat}
theorem tdLc_run (hi : MonoI ti) (mg : MonoG g) (mt : MonoT tt) (me : MonoD te) : ∀ σ H Q, tyE X.K (tdLc ti g tt te vs) σ H Q → tLc (tyI X.K ti) (tyG X.K vs g) (tyT X.K tt) (tyE X.K te) vs σ H Q := by
  intro σ H Q ⟨B, H0, G0, δ, G, R, q⟩
  refine ⟨B, H0, G0, δ, G, R, hi _ _ _ q fun xs δ1 q J H1 G1 R1 s1 f1 it => fun D hD => ?_⟩
  obtain ⟨hz, q⟩ := q
  obtain ⟨d0, dB, dO⟩ := R1.newOwn hD
  have gD : G1 D = none := R1.sub.free hD
  refine ⟨fun i m H' => i + m = xs.length ∧ ∃ acc accD G', H' D = some (.lst acc) ∧ DdA X.K G' acc accD ∧ acc.length ≤ i ∧ Rel X.K B H0 G1 H' σ δ1 G' ∧ G' D = none ∧ Fra B H1 H' ∧
    compD g tt te (wipeD (hideOwn δ1) vs) (xs.drop i) accD (fun ys => Aft X.K B H0 G0 H σ G Q (.ol ys) δ1),
    ⟨xs.length, by omega, [], [], G1, upd_same, .nil, Nat.le_refl _, (R1.rebase).laidO hD (Nat.zero_le _), gD, Fra.upd hD, q⟩, fun i m H' hW => ?_⟩
  obtain ⟨em, acc, accD, G', eD, hA, la, R', gD', f', q'⟩ := hW
  by_cases hi' : i < xs.length
  · obtain ⟨each, _⟩ := it B H' G' H' σ (hideOwn δ1) G' R'.inner R'.g0
    obtain ⟨go, yld⟩ := each i xs[i] (List.getElem?_eq_getElem hi')
    rw [List.drop_eq_getElem_cons hi'] at q'
    refine .inr ⟨go, fun H2 => ∃ acc2 accD2 G2, H2 D = some (.lst acc2) ∧ DdA X.K G2 acc2 accD2 ∧ acc2.length ≤ i + 1 ∧ Rel X.K B H0 G1 H2 σ δ1 G2 ∧ G2 D = none ∧ Fra B H1 H2 ∧ compD g tt te (wipeD (hideOwn δ1) vs) (xs.drop (i + 1)) accD2 (fun ys => Aft X.K B H0 G0 H σ G Q (.ol ys) δ1),
      fun H2 ⟨acc2, accD2, G2, h1, h2, h3, h4, h5, h6, h7⟩ => ⟨m - 1, by omega, by omega, acc2, accD2, G2, h1, h2, h3, h4, h5, h6, h7⟩, fun x H3 y => ?_⟩
    obtain ⟨G3, R3, s3, f3, hd⟩ := yld x H3 y
    -- the rest of a turn, from any state within the bracket
    have fin : ∀ {σ2 : L2.St} {δ2 : List Sl} {H4 G4 : Hp}, Rel X.K B H' G' H4 σ2 δ2 G4 → Rel X.K B H0 G1 H4 σ δ1 G4 ∧ H4 D = some (.lst acc) ∧ G4 D = none ∧ Fra B H1 H4 := fun {σ2 δ2 H4 G4} R4 =>
      ⟨R'.outer R4, R4.ent _ _ eD dB, by
        cases z : G4 D with
        | none => rfl
        | some o =>
          rcases R4.gn _ _ z with y | y
          · rw [gD'] at y; cases y
          · rw [eD] at y; (cases y), f'.trans fun a o e n => R4.ent a o e n⟩
    refine ⟨B, H', G', _, G3, xs[i], R3.wipes vs, hd, mg _ _ _ _ q' fun δ4 q4 σ4 ew R4 => ⟨ew.trans (wipe_wipe σ vs), ?_⟩⟩
    refine ⟨B, H', G', δ4, G3, R4, mt _ _ _ q4 fun b δ5 q5 H5 G5 R5 s5 f5 => ?_⟩
    obtain ⟨rfl, q5⟩ := q5
    cases b with
    | false =>
      obtain ⟨h1, h2, h3, h4⟩ := fin R5
      exact ⟨acc, accD, G5, h2, DdA.mono R5.g0 _ _ hA, by omega, h1, h3, h4, q5⟩
    | true =>
      refine ⟨B, H', G', δ5, G5, R5, me _ _ _ q5 fun r δ6 q6 v H6 G6 R6 s6 f6 ok => ?_⟩
      obtain ⟨rfl, q6⟩ := q6
      split at q6
      · rename_i y ey
        obtain ⟨G7, R7, s7, hy⟩ := freeze R6 ok ey
        obtain ⟨h1, h2, h3, h4⟩ := fin R7
        have hl : (acc ++ [v]).length ≤ i + 1 := by rw [List.length_append]; show acc.length + 1 ≤ i + 1; omega
        refine ⟨acc, h2, by omega, acc ++ [v], accD ++ [y], G7, upd_same, (DdA.mono R7.g0 _ _ hA).append (.one hy), hl, ?_, h3, fun a o e n => ?_, q6⟩
        · exact h1.writeFree d0 h3 dB (fun j oj => by
            obtain ⟨e1, s, e2, e3⟩ := oj
            exact dO j ⟨e1, s, e2, e3⟩) (by show (acc ++ [v]).length ≤ sizeLine; omega)
        · by_cases ha : a = D
          · subst ha; rw [hD] at e; cases e
          · rw [upd_ne ha]; exact h4 a o e n
      · exact q6.elim
  · have ei : i = xs.length := by omega
    subst ei
    obtain ⟨_, stop⟩ := it B H0 G1 H' σ δ1 G' R' R'.g0
    rw [List.drop_length] at q'
    refine .inl ⟨stop, q' (.ref D) H' G' (R1.back R') (s1.trans R'.g0) (f1.trans f') ⟨⟨D, rfl, gD', acc, eD, hA⟩, fun z => (nomatch z), fun _ a e => ?_⟩⟩
    cases e
    exact ⟨d0, dB, dO⟩
theorem tdLc_mono (hi : MonoI ti) (mg : MonoG g) (mt : MonoT tt) (me : MonoD te) : MonoD (tdLc ti g tt te vs) := fun δ Q Q' q w => hi _ _ _ q fun xs δ1 q => ⟨q.1, compD_mono mg mt me (fun ys q => w _ _ q) _ _ q.2⟩
abbrev Blk (X : Cx) (scope : Scope) (s : Shared) (H : Hp) (C : Addr) (cl : List (Str × Addr)) (fp : List Addr) : Cx := X.blk s H scope (compEnvC scope cl C X.env) fp
theorem pd_lc (hc : X.calm = true) (hN : X.N.Nodup) (hi : PDI X tg iter ti) (ok : BlkOk X.N X.env.scope scope own) (ev : own.map (·.2) = vs)
    (hg : ∀ s H C cl fp, PDG (Blk X scope s H C cl fp) tg vs g) (ht : ∀ s H C cl fp, PDTs (Blk X scope s H C cl fp) ifs tt) (he : ∀ s H C cl fp, PD (Blk X scope s H C cl fp) elt te)
    (hs : ∀ x, foldedSetIterable iter X.env x = pure x := by intro _; rfl) : PD X (.ListComp elt [⟨tg, iter, ifs, 0⟩] scope pos) (tdLc ti g tt te vs) := by
  subst ev
  have m1 := (hg X.s_0 X.H_0 0 [] []).mono
  have m2 := (ht X.s_0 X.H_0 0 [] []).mono
  have m3 := (he X.s_0 X.H_0 0 [] []).mono
  exact ⟨PE.weak (pe_lc (te := tyE X.K te) (tt := tyT X.K tt) (g := tyG X.K (own.map (·.2)) g) hc hN hi.pi ok (fun s H C cl fp => (hg s H C cl fp).pg) (fun s H C cl fp => (ht s H C cl fp).pt) (fun s H C cl fp => (he s H C cl fp).pe) hs) (tdLc_run hi.mono m1 m2 m3), tdLc_mono hi.mono m1 m2 m3⟩
theorem pds_setLc {i : Nat} {y : Str} {py spos : Pos} (hc : X.calm = true) (hN : X.N.Nodup) (hy : X.N[i]? = some y) (hyl : X.env.scope.names.lookup y = some .local)
    (hsw : swapsWith (.ListComp elt [⟨tg, iter, ifs, 0⟩] scope pos) (some (.Name y py)) spos.line X.env = pure true) (hi : PDI X tg iter ti) (ok : BlkOk X.N X.env.scope scope own) (ev : own.map (·.2) = vs)
    (hg : ∀ s H C cl fp, PDG (Blk X scope s H C cl fp) tg vs g) (ht : ∀ s H C cl fp, PDTs (Blk X scope s H C cl fp) ifs tt) (he : ∀ s H C cl fp, PD (Blk X scope s H C cl fp) elt te)
    (hs : ∀ x, foldedSetIterable iter X.env x = pure x := by intro _; rfl) : PDS X (.Assign [.Name y py] (.ListComp elt [⟨tg, iter, ifs, 0⟩] scope pos) spos) (tdSet i (tdLc ti g tt te vs)) := by
  subst ev
  have m1 := (hg X.s_0 X.H_0 0 [] []).mono
  have m2 := (ht X.s_0 X.H_0 0 [] []).mono
  have m3 := (he X.s_0 X.H_0 0 [] []).mono
  have m := tdLc_mono (vs := own.map (·.2)) hi.mono m1 m2 m3
  refine ⟨PS.weak (ps_setLc (te := tyE X.K te) (tt := tyT X.K tt) (g := tyG X.K (own.map (·.2)) g) hc hN hy hyl hsw hi.pi ok (fun s H C cl fp => (hg s H C cl fp).pg) (fun s H C cl fp => (ht s H C cl fp).pt) (fun s H C cl fp => (he s H C cl fp).pe) hs) fun D σ H ⟨B, H0, G0, δ, G, R, q⟩ => ?_, fun D D' δ w q => m _ _ _ q fun r δ' q => w.nx _ q⟩
  exact tdLc_run hi.mono m1 m2 m3 σ H _ ⟨B, H0, G0, δ, G, R, m _ _ _ q fun r δ' q v H' G' R' _ _ ok => q _ _ _ (R'.assign ok i)⟩
end
end DL

set_option Elab.async false
set_option linter.all false
set_option maxRecDepth 100000
set_option maxHeartbeats 2000000
/-! DLA: repr over data. -/
namespace DL
open PySem PySem.Spec PyProof.Rows L2
/-! ### what can be shown -/
mutual
/-- plain: no instance, no dict with tuple keys -/
def plainD : D → Bool
  | .lst xs => plainA xs
  | .tup xs => plainA xs
  | .dK ks vs => decide (ks.length = vs.length) && plainA vs
  | .dT _ _ => false
  | .ins _ _ _ => false
  | _ => true
def plainA : List D → Bool
  | [] => true
  | x :: xs => plainD x && plainA xs
end
mutual
def noL : D → Bool
  | .lst _ => false
  | .tup xs => noLA xs
  | .dK _ vs => noLA vs
  | .dT _ _ => false
  | .ins _ _ _ => false
  | _ => true
def noLA : List D → Bool
  | [] => true
  | x :: xs => noL x && noLA xs
end
def KeyReads (h : Heap) : List DictEntry → List Key → Prop := fun es ks => ∃ as, ReadsAll h (es.map (·.key)) (ks.map keyPy) as ∧ as = []
theorem key_reads {h : Heap} {P : Program} {w : World} : ∀ {es : List DictEntry} {kvs : List (Key × Value)}, Pairs (mixKind P w) es kvs → ReadsAll h (es.map (·.key)) (kvs.map fun p => keyPy p.1) []
  | [], [], _ => .nil
  | e :: es, kv :: kvs, hp => by
    cases hp with
    | cons h1 h2 h3 =>
      have ih := key_reads (h := h) h3
      have z : Reads h e.key (keyPy kv.1) [] := by
        rcases keyIs_shape (k := kv.1) (v := e.key) h1 with ⟨i, t, e1, e2⟩ | ⟨x, t, e1, e2⟩
        · rw [e1, e2]; exact .int i t
        · rw [e1, e2]; exact .str x t
      exact ReadsAll.cons (as := []) z ih
  | [], _ :: _, hp => by cases hp
  | _ :: _, [], hp => by cases hp
theorem val_eq {P : Program} {w : World} : ∀ {es : List DictEntry} {kvs : List (Key × Value)}, Pairs (mixKind P w) es kvs → es.map (·.val) = kvs.map (·.2)
  | [], [], _ => rfl
  | e :: es, kv :: kvs, hp => by
    cases hp with
    | cons h1 h2 h3 => rw [List.map_cons, List.map_cons, h2, val_eq h3]
  | [], _ :: _, hp => by cases hp
  | _ :: _, [], hp => by cases hp
theorem kv_split : ∀ {ks : List Key} {xs : List V} {vs : List (Key × Value)}, ks.length = xs.length → KV (ks.zip xs) vs → vs.map (·.1) = ks ∧ Vals xs (vs.map (·.2))
  | [], [], _, _, h => by cases h; exact ⟨rfl, .nil⟩
  | k :: ks, x :: xs, _, e, h => by
    cases h with
    | cons h1 h2 =>
      obtain ⟨z1, z2⟩ := kv_split (by simpa using e) h2
      refine ⟨?_, .cons h1.2 z2⟩
      rw [List.map_cons, z1, ← h1.1]
  | [], _ :: _, _, e, _ => by simp at e
  | _ :: _, [], _, e, _ => by simp at e
section
variable {X : Cx} {pins : List (Addr × Obj)} {σ : L2.St} {H G : Hp} {s : Shared}
mutual
theorem Dd.reads (I : Inv X pins σ H s) (e : Same G H) : ∀ (d : D) (v : V) (u : Value), plainD d = true → Dd X.K G v d → RelV v u → ∃ as, Reads s.heap u (py d) as ∧ (noL d = true → sysModules ∉ as)
  | .non, _, _, _, h, r => by cases h; cases r; exact ⟨_, .none, fun _ => List.not_mem_nil⟩
  | .bl b, _, _, _, h, r => by cases h; cases r; exact ⟨_, .bool b, fun _ => List.not_mem_nil⟩
  | .int i, _, _, _, h, r => by cases h; obtain ⟨t, rfl⟩ := r; exact ⟨_, .int i t, fun _ => List.not_mem_nil⟩
  | .str x, _, _, _, h, r => by cases h; obtain ⟨t, rfl⟩ := r; exact ⟨_, .str x t, fun _ => List.not_mem_nil⟩
  | .lst ds, _, _, c, h, r => by
    cases h with
    | lst h1 h2 =>
      cases r
      obtain ⟨its, rv, ⟨o, n, ho, hc, _, hd⟩, _⟩ := I.list (SqL.of (e _ _ h1))
      obtain ⟨as, hr, _⟩ := DdA.reads I e ds _ its c h2 rv
      exact ⟨_, .list ho hc hd hr, fun z => by cases z⟩
  | .tup ds, _, _, c, h, r => by
    cases h with
    | tup h1 h2 =>
      cases r
      obtain ⟨its, rv, ⟨o, ho, hc, n, hd⟩, _⟩ := I.tuple (sameT e h1)
      obtain ⟨as, hr, hn⟩ := DdA.reads I e ds _ its c h2 rv
      exact ⟨_, .tuple ho hc hd hr, hn⟩
  | .dK ks ds, _, _, c, h, r => by
    cases h with
    | @dK a _ xs _ h0 h1 h2 =>
      cases r
      obtain ⟨_, sm, vs, kv, o, es, ep, ho, hx, hd, _, hp, _⟩ := I.hok a _ (e _ _ h1)
      obtain ⟨z1, z2⟩ := kv_split h0 kv
      have c2 : plainA ds = true := by
        have c' : (decide (ks.length = ds.length) && plainA ds) = true := c
        rw [Bool.and_eq_true] at c'
        exact c'.2
      obtain ⟨as, hr, hn⟩ := DdA.reads I e ds _ (vs.map (·.2)) c2 h2 z2
      have k1 := key_reads (h := s.heap) hp
      have k2 : (vs.map fun p => keyPy p.1) = ks.map keyPy := by rw [← z1, List.map_map]; rfl
      rw [k2] at k1
      have l1 : (ks.map keyPy).length = (pyA ds).length := by rw [pyA_map, List.length_map, List.length_map, h0, h2.len]
      refine ⟨_, Reads.dict (kvs := (ks.map keyPy).zip (pyA ds)) ho hx.1 hd (as := []) (bs := as) ?_ ?_, fun hn2 hm => ?_⟩
      · rw [List.map_fst_zip (Nat.le_of_eq l1)]; exact k1
      · rw [List.map_snd_zip (Nat.le_of_eq l1.symm), val_eq hp]; exact hr
      · have hm2 : sysModules ∈ a :: as := by simpa using hm
        rcases List.mem_cons.mp hm2 with z | z
        · rw [← z] at sm
          exact absurd sm (by decide)
        · exact hn hn2 z
  | .dT _ _, _, _, c, _, _ => by cases c
  | .ins _ _ _, _, _, c, _, _ => by cases c
theorem DdA.reads (I : Inv X pins σ H s) (e : Same G H) : ∀ (ds : List D) (vs : List V) (us : List Value), plainA ds = true → DdA X.K G vs ds → Vals vs us → ∃ as, ReadsAll s.heap us (pyA ds) as ∧ (noLA ds = true → sysModules ∉ as)
  | [], _, _, _, h, r => by cases h; cases r; exact ⟨_, .nil, fun _ => List.not_mem_nil⟩
  | d :: ds, _, _, c, h, r => by
    cases h with
    | cons h1 h2 =>
      cases r with
      | cons r1 r2 =>
        have c' : (plainD d && plainA ds) = true := c
        rw [Bool.and_eq_true] at c'
        obtain ⟨as, hr, hn⟩ := Dd.reads I e d _ _ c'.1 h1 r1
        obtain ⟨bs, hr2, hn2⟩ := DdA.reads I e ds _ _ c'.2 h2 r2
        refine ⟨_, .cons hr hr2, fun z hm => ?_⟩
        have z' : (noL d && noLA ds) = true := z
        rw [Bool.and_eq_true] at z'
        rcases List.mem_append.mp hm with q | q
        · exact hn z'.1 q
        · exact hn2 z'.2 q
end
end
structure ShowOk (d : D) : Prop where
  plain : plainD d = true
  nums : (py d).showable = true
  len : (py d).shown.length ≤ sizeLine
  depth : (py d).depth ≤ 100
  dicts : (py d).hasDict = false ∨ noL d = true
def rRepr (K : PySem.W.Frag) : List V → Hp → VK → Prop := fun vs H Q => ∃ v d G, vs = [v] ∧ Same G H ∧ Dd K G v d ∧ ShowOk d ∧ Q (.str (py d).shown) H
section
variable {X : Cx}
theorem call_reprD (hg : Ng X.A) (hu : X.A.units + 150 < cLine) : CallR X (.builtin "repr") (rRepr X.K) := by
  intro pins s σ H xs us Q I r h
  obtain ⟨v, d, G, rfl, sub, hd, ok, q⟩ := h
  obtain ⟨u, rfl, rv⟩ := vals1 r
  have fin : ∀ (h' : Heap) (w : Tok) (tk : Tok), (∀ b o, s.heap.get? b = some o → h'.get? b = some o) → EP X pins σ Q (.str (py d).shown w) { s with heap := h', toks := tk } :=
    fun h' w tk hk => ⟨.str _, H, I.kept (t' := tk) hk, ⟨w, rfl⟩, q⟩
  have big : ∀ a, u = .ref a → wpAny (model X.prog X.w) X.A (call (.builtin "repr") [u]) (EP X pins σ Q) X.xe s := by
    rintro a rfl
    obtain ⟨as, rd, ns⟩ := Dd.reads I sub d v _ ok.plain hd rv
    refine repr_of_reads' (h₀ := s.heap) rd ok.nums (fun z => ?_) hg (by have := ok.depth; omega) (fun _ _ e => e) (fun h' w tk hk => fin h' w tk hk) ok.len
    rcases ok.dicts with y | y
    · rw [y] at z; cases z
    · exact ns y
  cases hd with
  | non => cases rv; exact PySem.P.repr_of_none (fin s.heap _ _ fun _ _ e => e)
  | bl b => cases rv; exact PySem.P.repr_of_bool (fin s.heap _ _ fun _ _ e => e)
  | int i =>
    obtain ⟨t, rfl⟩ := rv
    exact PySem.P.repr_of_int (by simpa [py, PyData.showable] using ok.nums) (fin s.heap _ _ fun _ _ e => e)
  | str x =>
    obtain ⟨t, rfl⟩ := rv
    exact PySem.P.repr_of_str (fin s.heap _ _ fun _ _ e => e) ok.len
  | lst _ _ => cases rv; exact big _ rfl
  | tup _ _ => cases rv; exact big _ rfl
  | dK _ _ _ => cases rv; exact big _ rfl
  | dT _ _ _ => cases rv; exact big _ rfl
  | ins _ _ _ => cases rv; exact big _ rfl
def gRepr : D → List Sl → QD → Prop := fun d δ Q => ShowOk d ∧ Q (.dt (.str (py d).shown)) δ
theorem pd_repr {e : Expr} {u : TDA} {p pos : Pos} (hgd : Ng X.A) (hu : X.A.units + 150 < cLine) (hg : Gl X "repr") (hm : X.mg "repr" = none) (h : PDA X [e] u) (he : starEach [e] X.env = (false, eval e X.env) :: starEach [] X.env := by rfl) (hpl : (backTo pos (starEach [] X.env)).any (·.1) = false := by rfl) :
    PD X (.Call (.Name "repr" p) [e] [] pos) (tdCB (f1 gRepr) u) :=
  pd_callB (call_reprD hgd hu) (mono_f1 fun d δ Q Q' q w => ⟨q.1, w _ _ q.2⟩)
    (callS_1 fun B H0 G0 H σ δ G v d Q R hd q => ⟨v, d, G, rfl, R.sub, hd, q.1, aft_here R (.str _) q.2⟩) hg hm boot_repr' h (by decide) (by decide) he hpl
end
/-! ### bounds of what is shown -/
def smallK : Key → Bool
  | .inl i => decide (i.natAbs < 10 ^ 78)
  | .inr x => PyData.strOk x
def costK : Key → Nat
  | .inl _ => 80
  | .inr x => 10 * x.length + 2
mutual
/-- ints below 10 ^ 78 -/
def smallD : D → Prop
  | .int i => i.natAbs < 10 ^ 78
  | .str x => PyData.strOk x = true
  | .lst xs => smallA xs
  | .tup xs => smallA xs
  | .dK ks vs => ks.all smallK = true ∧ smallA vs
  | .dT _ _ => False
  | .ins _ _ _ => False
  | _ => True
def smallA : List D → Prop
  | [] => True
  | x :: xs => smallD x ∧ smallA xs
end
mutual
def costD : D → Nat
  | .non => 4
  | .bl _ => 5
  | .int _ => 80
  | .str x => 10 * x.length + 2
  | .lst xs => costA xs + 3
  | .tup xs => costA xs + 3
  | .dK ks vs => (ks.map fun k => costK k + 4).sum + costA vs + 3
  | .dT _ _ => 0
  | .ins _ _ _ => 0
def costA : List D → Nat
  | [] => 0
  | x :: xs => costD x + 2 + costA xs
end
theorem textFrom_le : ∀ (ts : List Str) (k : Nat) (acc : Str), (textFrom k acc ts).length ≤ acc.length + piled ts
  | [], k, acc => by show acc.length ≤ _; omega
  | x :: ts, k, acc => by
    show (textFrom (k + 1) (acc ++ (if k > 0 then ", " else "" : String) ++ x) ts).length ≤ _
    have h := textFrom_le ts (k + 1) (acc ++ (if k > 0 then ", " else "" : String) ++ x)
    rw [strLen_append, strLen_append] at h
    have e : (Str.ofString (if k > 0 then ", " else "")).length ≤ 2 := by split <;> decide
    rw [piled_cons]
    omega
theorem listText_le (ts : List Str) : (listText ts).length ≤ piled ts + 3 := by
  unfold listText
  rw [strLen_append]
  have h := textFrom_le ts 0 "["
  have e1 : (Str.ofString "[").length = 1 := by decide
  have e2 : (Str.ofString "]").length = 1 := by decide
  omega
theorem join_le (ts : List Str) : (Str.join ", " ts).length ≤ piled ts := by
  by_cases h : ts = []
  · subst h; decide
  · have := join_length_add ts h
    omega
theorem tupleText_le (ts : List Str) : (tupleText ts).length ≤ piled ts + 3 := by
  unfold tupleText
  rw [strLen_append, strLen_append]
  have h := join_le ts
  have e1 : (Str.ofString "(").length = 1 := by decide
  have e2 : (Str.ofString (if ts.length == 1 then ",)" else ")")).length ≤ 2 := by split <;> decide
  omega
theorem dictText_le (ts : List Str) : (dictText ts).length ≤ piled ts + 3 := by
  unfold dictText
  rw [strLen_append, strLen_append]
  have h := join_le ts
  have e1 : (Str.ofString "{").length = 1 := by decide
  have e2 : (Str.ofString "}").length = 1 := by decide
  omega
theorem int_le {i : Int} (h : i.natAbs < 10 ^ 78) : (Str.ofString (toString i)).length ≤ 80 ∧ i.natAbs.log2 < 1920 := by
  refine ⟨?_, ?_⟩
  · have z := int_text_length_le10 (k := 78) (by decide) h
    rw [PySem.ofString_length]
    omega
  · by_cases h0 : i.natAbs = 0
    · rw [h0]; decide
    · have z : i.natAbs.log2 < 260 := (Nat.log2_lt h0).mpr (Nat.lt_trans h (by decide +kernel))
      omega
theorem str_le {x : Str} (h : PyData.strOk x = true) : (reprText x).length ≤ 10 * x.length + 2 := by
  refine StrLaws.reprText_len x fun c hc => ?_
  unfold PyData.strOk at h
  have z := (Array.all_eq_true_iff_forall_mem.mp h) c (Array.mem_toList_iff.mp hc)
  have z2 : c < 0x110000 := of_decide_eq_true z
  omega
theorem keyPy_le {k : Key} (h : smallK k = true) : (keyPy k).shown.length ≤ costK k ∧ (keyPy k).showable = true ∧ (keyPy k).depth = 0 := by
  cases k with
  | inl i =>
    have z := int_le (of_decide_eq_true h)
    exact ⟨z.1, decide_eq_true z.2, rfl⟩
  | inr x => exact ⟨str_le h, rfl, rfl⟩
mutual
theorem costD_ok : ∀ d : D, smallD d → (py d).shown.length ≤ costD d ∧ (py d).showable = true
  | .non, _ => ⟨by decide, rfl⟩
  | .bl b, _ => ⟨by cases b <;> decide, rfl⟩
  | .int i, h => by
    have z := int_le h
    exact ⟨z.1, decide_eq_true z.2⟩
  | .str x, h => ⟨str_le h, rfl⟩
  | .lst xs, h => by
    obtain ⟨h1, h2⟩ := costA_ok xs h
    exact ⟨Nat.le_trans (listText_le _) (Nat.add_le_add_right h1 3), h2⟩
  | .tup xs, h => by
    obtain ⟨h1, h2⟩ := costA_ok xs h
    exact ⟨Nat.le_trans (tupleText_le _) (Nat.add_le_add_right h1 3), h2⟩
  | .dK ks vs, h => by
    obtain ⟨h1, h2⟩ := costA_ok vs h.2
    have k : ∀ (ks : List Key) (ds : List PyData), ks.all smallK = true → PyData.showableAll ds = true → piled (PyData.shownKv ((ks.map keyPy).zip ds)) ≤ (ks.map fun k => costK k + 4).sum + piled (PyData.shownAll ds) ∧ PyData.showableKv ((ks.map keyPy).zip ds) = true := by
      intro ks
      induction ks with
      | nil => intro ds _ _; exact ⟨Nat.zero_le _, rfl⟩
      | cons k ks ih =>
        intro ds hk hs
        cases ds with
        | nil => exact ⟨Nat.zero_le _, rfl⟩
        | cons d ds =>
          rw [List.all_cons, Bool.and_eq_true] at hk
          have hs' : (PyData.showable d && PyData.showableAll ds) = true := hs
          rw [Bool.and_eq_true] at hs'
          obtain ⟨i1, i2⟩ := ih ds hk.2 hs'.2
          obtain ⟨k1, k2, _⟩ := keyPy_le hk.1
          refine ⟨?_, ?_⟩
          · show piled ((PyData.shown (keyPy k) ++ ": " ++ PyData.shown d) :: PyData.shownKv ((ks.map keyPy).zip ds)) ≤ ((costK k + 4) :: ks.map fun k => costK k + 4).sum + piled (PyData.shown d :: PyData.shownAll ds)
            rw [piled_cons, piled_cons, List.sum_cons, strLen_append, strLen_append]
            have e1 : (Str.ofString ": ").length = 2 := by decide
            omega
          · show (PyData.showable (keyPy k) && PyData.showable d && PyData.showableKv ((ks.map keyPy).zip ds)) = true
            rw [k2, hs'.1, i2]; rfl
    obtain ⟨z1, z2⟩ := k ks (pyA vs) h.1 h2
    refine ⟨Nat.le_trans (dictText_le _) ?_, z2⟩
    show _ ≤ (ks.map fun k => costK k + 4).sum + costA vs + 3
    omega
  | .dT _ _, h => h.elim
  | .ins _ _ _, h => h.elim
theorem costA_ok : ∀ xs : List D, smallA xs → piled (PyData.shownAll (pyA xs)) ≤ costA xs ∧ PyData.showableAll (pyA xs) = true
  | [], _ => ⟨Nat.le_refl _, rfl⟩
  | x :: xs, h => by
    obtain ⟨h1, h2⟩ := costD_ok x h.1
    obtain ⟨h3, h4⟩ := costA_ok xs h.2
    refine ⟨?_, ?_⟩
    · show piled (PyData.shown (py x) :: PyData.shownAll (pyA xs)) ≤ costD x + 2 + costA xs
      rw [piled_cons]; omega
    · show (PyData.showable (py x) && PyData.showableAll (pyA xs)) = true
      rw [h2, h4]; rfl
end
theorem showOk_of {d : D} (h1 : plainD d = true) (h2 : smallD d) (h3 : costD d ≤ sizeLine) (h4 : (py d).depth ≤ 100) (h5 : (py d).hasDict = false ∨ noL d = true) : ShowOk d :=
  ⟨h1, (costD_ok d h2).2, Nat.le_trans (costD_ok d h2).1 h3, h4, h5⟩
end DL

set_option Elab.async false
set_option linter.all false
set_option maxRecDepth 100000
set_option maxHeartbeats 2000000
/-! DLB: defs by name; the bag's defs; the law's own frame; heads. -/
namespace DL
open PySem PySem.Spec PyProof.Rows L2
theorem u150 {k : Nat} {A : Around} (r : Room k A) : A.units + 150 < cLine := by have := r.un; omega
/-! ### defs by name -/
structure FnX (P : Program) (w : World) (K : PySem.W.Frag) (mg : Str → Option Value) (base : Heap) (k : Nat) (x : Str) (n : Nat) (t : TF) : Prop where
  ex : ∃ f fd ps, FnOk P w K mg base CX0 k f fd ps (spD K n t) ∧ mg x = some (.ref f) ∧ PySem.W.keepIn K (.ref f) = true ∧ Binds K fd ps []
  mono : MonoF t
  len : ∀ rs Q, t rs Q → rs.length = n
structure FnXG (P : Program) (w : World) (K : PySem.W.Frag) (mg : Str → Option Value) (base : Heap) (k : Nat) (x : Str) (n : Nat) (t : TF) : Prop where
  ex : ∃ f fd ps, FnG P w K mg base k f fd ps (spD K n t) ∧ mg x = some (.ref f) ∧ PySem.W.keepIn K (.ref f) = true ∧ Binds K fd ps []
  mono : MonoF t
  len : ∀ rs Q, t rs Q → rs.length = n
section
variable {X : Cx} {e : Expr} {es : List Expr} {pos p : Pos} {u : TDA} {k n : Nat} {t : TF} {x : Str}
theorem pd_fn (F : FnX X.prog X.w X.K X.mg X.base k x n t) (hr : Room k X.A) (hg : Gl X x) (h : PDA X (e :: es) u)
    (hdb : (x == ("__debug__" : Str)) = false := by decide) (he : starEach (e :: es) X.env = (false, eval e X.env) :: starEach es X.env := by rfl) (hpl : (backTo pos (starEach es X.env)).any (·.1) = false := by rfl) :
    PD X (.Call (.Name x p) (e :: es) [] pos) (tdCall t u) := by
  obtain ⟨f, fd, ps, h1, h2, h3, h4⟩ := F.ex
  exact pd_call h1 F.mono F.len hr hg h2 h3 h4 h hdb he hpl
theorem pd_fnG (F : FnXG X.prog X.w X.K X.mg X.base k x n t) (gd : Ng X.A) (hr : Room k X.A) (hg : Gl X x) (h : PDA X (e :: es) u)
    (hdb : (x == ("__debug__" : Str)) = false := by decide) (he : starEach (e :: es) X.env = (false, eval e X.env) :: starEach es X.env := by rfl) (hpl : (backTo pos (starEach es X.env)).any (·.1) = false := by rfl) :
    PD X (.Call (.Name x p) (e :: es) [] pos) (tdCall t u) := by
  obtain ⟨f, fd, ps, h1, h2, h3, h4⟩ := F.ex
  exact pd_callG h1 F.mono F.len gd hr hg h2 h3 h4 h hdb he hpl
end
/-- what the top has written of a def: its object, its name -/
structure Dfn (K : PySem.W.Frag) (mg : Str → Option Value) (x : Str) (st : Stmt) (ps : List Str) : Prop where
  ex : ∃ f fd, Fun K x x st f fd ∧ mg x = some (.ref f) ∧ Binds K fd ps []
section
variable {P : Program} {w : World} {K : PySem.W.Frag} {mg : Str → Option Value} {base : Heap} {x : Str} {st : Stmt} {N ps : List Str} {k n : Nat} {t : TF}
theorem FnX.of (D : Dfn K mg x st ps) (S : FnScope N ps (defScope st)) (hn : ps.length = n) (mt : MonoF t) (ln : ∀ rs Q, t rs Q → rs.length = n)
    (hb : ∀ (f : Addr) (cdv : Value) (A : Around) (outer : List Env) (s : Shared) (H : Hp) (E : XK), Room k (A.deeper (envOfC x (defScope st) s.heap.objs.size f cdv)) →
      ∃ tS, PDSs (cxOf CX0 P w K mg base N x (defScope st) f cdv A outer s H E).nox (defBody st) tS ∧ ∀ rs (Q : Sl → Prop), t rs Q → tS { nx := fun _ => Q (.dt .non), rt := fun r _ => Q r } (startD N rs)) :
    FnX P w K mg base (k + 1) x n t := by
  obtain ⟨f, fd, F, hm, hbd⟩ := D.ex
  exact ⟨⟨f, fd, ps, fnD F S hn (fun cdv A outer s H E hr => hb f cdv A outer s H E hr), hm, F.kp, hbd⟩, mt, ln⟩
theorem FnXG.of (D : Dfn K mg x st ps) (S : FnScope N ps (defScope st)) (hn : ps.length = n) (mt : MonoF t) (ln : ∀ rs Q, t rs Q → rs.length = n)
    (hb : ∀ (f : Addr) (cdv : Value) (A : Around) (outer : List Env) (s : Shared) (H : Hp) (E : XK), Ng A → Room k (A.deeper (envOfC x (defScope st) s.heap.objs.size f cdv)) →
      ∃ tS, PDSs (cxOf CX0 P w K mg base N x (defScope st) f cdv A outer s H E).nox (defBody st) tS ∧ ∀ rs (Q : Sl → Prop), t rs Q → tS { nx := fun _ => Q (.dt .non), rt := fun r _ => Q r } (startD N rs)) :
    FnXG P w K mg base (k + 1) x n t := by
  obtain ⟨f, fd, F, hm, hbd⟩ := D.ex
  exact ⟨⟨f, fd, ps, fnDG F S hn (fun cdv A outer s H E gd hr => hb f cdv A outer s H E gd hr), hm, F.kp, hbd⟩, mt, ln⟩
theorem FnX.g (F : FnX P w K mg base k x n t) : FnXG P w K mg base k x n t := by
  obtain ⟨f, fd, ps, h1, h2, h3, h4⟩ := F.ex
  exact ⟨⟨f, fd, ps, .of h1, h2, h3, h4⟩, F.mono, F.len⟩
theorem FnX.up {j : Nat} (F : FnX P w K mg base j x n t) (h : j ≤ k) : FnX P w K mg base k x n t := by
  obtain ⟨f, fd, ps, h1, h2, h3, h4⟩ := F.ex
  exact ⟨⟨f, fd, ps, h1.mono h, h2, h3, h4⟩, F.mono, F.len⟩
theorem FnXG.up {j : Nat} (F : FnXG P w K mg base j x n t) (h : j ≤ k) : FnXG P w K mg base k x n t := by
  obtain ⟨f, fd, ps, h1, h2, h3, h4⟩ := F.ex
  exact ⟨⟨f, fd, ps, h1.mono h, h2, h3, h4⟩, F.mono, F.len⟩
end
/-! ### a, b = x, y -/
def tdPar (i j : Nat) (t : TDA) : TDS := fun D δ => t δ fun rs δ' => match rs with
  | [r, s] => D.nx ((δ'.set i r).set j s)
  | _ => False
section
variable {X : Cx} {a b : Expr} {pos : Pos} {u : TDA}
theorem resOk_arg {K : PySem.W.Frag} {B : Bg} {H0 H G : Hp} {σ : L2.St} {δ : List Sl} {v : V} {r : Sl} (h : ArgOk K B G v r) : ResOk K B H0 H σ δ G v r := by
  cases r <;> first | exact ⟨h, fun z => (nomatch z), fun z => (nomatch z)⟩ | exact h.elim
theorem pds_par {i j : Nat} {x y : Str} {px py pt : Pos} {kt k2 pt2} (hc : X.calm = true) (hN : X.N.Nodup) (hi : X.N[i]? = some x) (hj : X.N[j]? = some y) (hij : i ≠ j)
    (hx : X.env.scope.names.lookup x = some .local) (hy : X.env.scope.names.lookup y = some .local) (h : PDA X [a, b] u)
    (hw : swappedStores [.Tuple [.Name x px, .Name y py] kt pt] (.Tuple [a, b] k2 pt2) X.env = pure (some [x, y]))
    (hs : swapsWithSole [.Tuple [.Name x px, .Name y py] kt pt] (.Tuple [a, b] k2 pt2) pos.line X.env = pure false := by rfl) :
    PDS X (.Assign [.Tuple [.Name x px, .Name y py] kt pt] (.Tuple [a, b] k2 pt2) pos) (tdPar i j u) := by
  refine ⟨PS.weak (ps_par hc hN hi hj hij hx hy h.pa hw hs) fun D σ H ⟨B, H0, G0, δ, G, R, q⟩ => ⟨B, H0, G0, δ, G, R, h.mono _ _ _ q fun rs δ1 q vs H1 G1 R1 s1 f1 oks => ?_⟩, fun D D' δ w q => h.mono _ _ _ q fun rs δ1 q => ?_⟩
  · split at q
    · rename_i r s
      match vs, oks with
      | [v, w], oks => exact ⟨v, w, rfl, q _ _ _ ((R1.assign (resOk_arg oks.1) i).assign (resOk_arg oks.2.1) j)⟩
      | [], oks => exact oks.elim
      | [_], oks => exact oks.2.elim
      | _ :: _ :: _ :: _, oks => exact oks.2.2.elim
    · exact q.elim
  · split at q
    · exact w.nx _ q
    · exact q
end
/-! ### x += e -/
def tdAug (i : Nat) (t : TD) : TDS := fun D δ => match δ[i]? with
  | some (.dt (.int a)) => t δ fun r δ' => match r with
    | .dt (.int b) => D.nx (δ'.set i (.dt (.int (a + b))))
    | _ => False
  | _ => False
section
variable {X : Cx} {e : Expr} {pos : Pos} {ta : TD}
theorem pds_aug {i : Nat} {x : Str} {pos' : Pos} (hN : X.N.Nodup) (hi : X.N[i]? = some x) (hx : Loc X.env.scope x) (h : PD X e ta) (hf : X.fn x = true ∨ X.env.scope.names.lookup x = some .local := by first | exact .inl rfl | exact .inr rfl | assumption) :
    PDS X (.AugAssign (.Name x pos') .Add e pos) (tdAug i ta) := by
  refine ⟨PS.weak (ps_aug hN hi hx h.pe ip_add hf) fun D σ H ⟨B, H0, G0, δ, G, R, q⟩ => ?_, fun D D' δ w q => ?_⟩
  · unfold tdAug at q
    split at q
    · rename_i a e1
      rcases R.sl i _ e1 with z | ⟨v, ev, ok⟩
      · cases z
      · cases ok
        refine ⟨_, ev, B, H0, G0, δ, G, R, h.mono _ _ _ q fun r δ' q v H' G' R' _ _ ok => ?_⟩
        split at q
        · cases ok.1
          exact ⟨_, _, rfl, rfl, q _ _ _ (R'.assign (resOk_dt (.int _)) i)⟩
        · exact q.elim
    · exact q.elim
  · unfold tdAug at q ⊢
    split at q
    · refine h.mono _ _ _ q fun r δ' q => ?_
      split at q
      · exact w.nx _ q
      · exact q
    · exact q
end
/-! ### the bag -/
/-- _law_take(bag, many) -/
def tTake : TF := fun rs Q => match rs with
  | [.bag, .dt (.int n)] => 0 < n ∧ n < 1073741824 ∧ ∀ d : Int, 0 ≤ d → d < n → Q (.dt (.int d))
  | _ => False
theorem mono_tTake : MonoF tTake := fun rs Q Q' q w => by
  unfold tTake at q ⊢
  split at q
  · exact ⟨q.1, q.2.1, fun d h1 h2 => w _ (q.2.2 d h1 h2)⟩
  · exact q
theorem len_tTake : ∀ rs Q, tTake rs Q → rs.length = 2 := fun rs Q q => by
  unfold tTake at q
  split at q
  · rfl
  · exact q.elim
/-- _law_one(bag, some) -/
def tOne : TF := fun rs Q => match rs with
  | [.bag, .dt (.lst xs)] => 0 < xs.length ∧ xs.length < 1073741824 ∧ ∀ (i : Nat) (x : D), xs[i]? = some x → Q (.dt x)
  | _ => False
theorem mono_tOne : MonoF tOne := fun rs Q Q' q w => by
  unfold tOne at q ⊢
  split at q
  · exact ⟨q.1, q.2.1, fun i x h => w _ (q.2.2 i x h)⟩
  · exact q
theorem len_tOne : ∀ rs Q, tOne rs Q → rs.length = 2 := fun rs Q q => by
  unfold tOne at q
  split at q
  · rfl
  · exact q.elim
/-- o[i] of a list, for o[i] op= e -/
theorem get_list {X : Cx} : PGet X (fun x y H Q => ∃ (p : Addr) (xs : List V) (i : Nat) (v : V), x = .ref p ∧ y = .int (i : Nat) ∧ H p = some (.lst xs) ∧ xs[i]? = some v ∧ Q v H) := by
  intro pins s σ H o i ov iv Q I ro ri h
  obtain ⟨p, xs, j, v, rfl, rfl, hp, hv, q⟩ := h
  cases ro
  obtain ⟨t, rfl⟩ := ri
  obtain ⟨its, n, r, hg, hz⟩ := I.lst hp
  obtain ⟨u, hu, ru⟩ := r.get hv
  have hj : j < xs.length := (List.getElem?_eq_some_iff.mp hv).1
  have pl : s.heap.IsList p its.toArray := (I.list (SqL.of hp)).elim fun its' h => by
    obtain ⟨r', pl, _⟩ := h
    exact ⟨_, hg, rfl, ⟨n, rfl⟩⟩
  exact wpAny_getItem_list pl (Int.natCast_nonneg _) (by rw [sizeLine_eq] at hz; omega) (by simpa using hu) ⟨v, H, I, ru, q⟩
end DL

set_option Elab.async false
set_option linter.all false
set_option maxRecDepth 100000
set_option maxHeartbeats 4000000
/-! DLC: the bag's defs: what their bodies come to. -/
namespace DL
open PySem PySem.Spec PyProof.Rows L2
section
variable {K : PySem.W.Frag}
abbrev rEqI : R2 := rEq
/-- bag[j] -/
def tAt (K : PySem.W.Frag) (j : Int) : TE := tOp (rIxL K) (tVar 0) (tC (.int j))
def rGetL : V → V → Hp → VK → Prop := fun x y H Q => ∃ (p : Addr) (xs : List V) (i : Nat) (v : V), x = .ref p ∧ y = .int (i : Nat) ∧ H p = some (.lst xs) ∧ xs[i]? = some v ∧ Q v H
def rInt1 : List V → Hp → VK → Prop := fun xs H Q => (∃ i, xs = [.int i] ∧ Q (.int i) H) ∨ ∃ k, xs = [.bl k] ∧ Q (.int (if k then 1 else 0)) H
def rLen1 (K : PySem.W.Frag) : List V → Hp → VK → Prop := fun xs H Q => ∃ x n, xs = [x] ∧ LenV K x H n ∧ Q (.int n) H
def tI1 (t : TE) : TE := tCB rInt1 (tCons t tNil)
abbrev rMul2 : R2 := rI CMul fun i j => .int (i * j)
abbrev rMod2 : R2 := rI (fun _ j => j ≠ 0) fun i j => .int (i.fmod j)
abbrev rDiv2 : R2 := rI CDivN fun i j => .int (i.fdiv j)
abbrev rAdd2 : R2 := rI0 fun i j => .int (i + j)
abbrev rLt2 : R2 := rI0 fun i j => .bl (decide (i < j))
abbrev rGt2 : R2 := rI0 fun i j => .bl (decide (j < i))
abbrev rGe2 : R2 := rI0 fun i j => .bl (decide (j ≤ i))
def t_take1 (K : PySem.W.Frag) : TS :=
  tSeq (tAsg (tC (.int 0)) (gName 2))
  (tSeq (tIfS (tTest (tOp rLt2 (tAt K 2) (tCB (rLen1 K) (tCons (tAt K 3) tNil)))) (tAsg (tOp (rIxL K) (tAt K 3) (tAt K 2)) (gName 2)) tNext)
  (tSeq (tAugS (tVar 0) (tC (.int 2)) (tC (.int 1)) rGetL (ipI fun i j => i + j) rSetL)
  (tSeq (tIfS (tTest (tOp rGe2 (tVar 2) (tC (.int 1000000000000000000)))) (tAsg (tVar 2) (gSub (tVar 0) (tC (.int 0)) rSetL)) tNext)
  (tSeq (tAsg (tOp rAdd2 (tOp rAdd2 (tOp rMul2 (tAt K 1) (tC (.int 48271))) (tOp rMod2 (tI1 (tVar 2)) (tC (.int 2147483647)))) (tOp rMul2 (tC (.int 7919)) (tAt K 2))) (gName 3))
  (tAsg (tOp rMod2 (tI1 (tVar 3)) (tC (.int 2147483647))) (gSub (tVar 0) (tC (.int 1)) rSetL))))))
def t_take2 (K : PySem.W.Frag) : TS :=
  tSeq (tAsg (tOp rMod2 (tI1 (tAt K 0)) (tVar 1)) (gName 4))
  (tSeq (tAsg (tOp rDiv2 (tI1 (tAt K 0)) (tVar 1)) (gSub (tVar 0) (tC (.int 0)) rSetL)) (tRet (tVar 4)))
def t_take3 (K : PySem.W.Frag) : TS :=
  tSeq (tAsg (tOp rMod2 (tI1 (tOp rMul2 (tOp rAdd2 (tAt K 1) (tC (.int 1))) (tC (.int 39373)))) (tC (.int 1000000007))) (gName 5))
  (tSeq (tAsg (tOp rMod2 (tI1 (tOp rMul2 (tOp rMod2 (tI1 (tOp rMul2 (tVar 5) (tVar 5))) (tC (.int 998244353))) (tC (.int 30011)))) (tC (.int 998244353))) (gName 6))
  (tRet (tOp rMod2 (tI1 (tOp rDiv2 (tVar 6) (tC (.int 7)))) (tVar 1))))
def t_take (K : PySem.W.Frag) : TS :=
  tSeq (tIfS (tTest (tOp rEq (tAt K 0) (tC (.int 0)))) (t_take1 K) tNext)
  (tSeq (tIfS (tTest (tOp rGt2 (tAt K 0) (tC (.int 0)))) (t_take2 K) tNext) (t_take3 K))
theorem fmod_rng {i j : Int} (h : 0 < j) : 0 ≤ i.fmod j ∧ i.fmod j < j := ⟨Int.fmod_nonneg_of_pos i h, Int.fmod_lt_of_pos i h⟩
theorem fdiv_nn {i j : Int} (h0 : 0 ≤ i) (h : 0 < j) : 0 ≤ i.fdiv j := Int.fdiv_nonneg h0 (Int.le_of_lt h)
abbrev bagL (x m i : Int) (c : Addr) : HO := .lst [.int x, .int m, .int i, .ref c]
/-- bag[j] of a bag -/
theorem at_run {j : Int} {b c : Addr} {x m i : Int} {H : Hp} {σ : L2.St} {Q : VK} (h0 : σ[0]? = some (some (.ref b))) (hb : H b = some (bagL x m i c)) {v : V} (hv : atI ([.int x, .int m, .int i, .ref c] : List V) j = some v) (q : Q v H) : tAt K j σ H Q :=
  ⟨_, h0, b, _, j, v, rfl, rfl, SqL.of hb, hv, q⟩
theorem i1_run {t : TE} {σ : L2.St} {H : Hp} {Q : VK} {i : Int} (h : t σ H fun v H' => v = .int i ∧ H' = H) (m : ∀ {Q Q' : VK}, t σ H Q → (∀ v H', Q v H' → Q' v H') → t σ H Q') (q : Q (.int i) H) : tI1 t σ H Q :=
  m h fun v H' ⟨e1, e2⟩ => by subst e1; subst e2; exact .inl ⟨i, rfl, q⟩
theorem pure_take {vs : List V} {H : Hp} {Q : VK} {E : XK} (h : spD K 2 tTake vs H Q E) :
    t_take K { nx := fun _ H2 => Q .non H2, rt := Q } (L2.start ["a", "b", "c", "d", "e", "f", "g"] vs) H := by
  obtain ⟨_, B, G, rs, sub, bag, sz, oks, q⟩ := h
  unfold tTake at q
  split at q
  case h_2 => exact q.elim
  rename_i n
  obtain ⟨hn0, hn1, q⟩ := q
  match vs, oks with
  | [], oks => exact oks.elim
  | [_], oks => exact oks.2.elim
  | _ :: _ :: _ :: _, oks => exact oks.2.2.elim
  | [v, w], oks =>
    obtain ⟨⟨b, c, hB, rfl⟩, hw, _⟩ := oks
    cases (show Dd K G w (.int n) from hw)
    obtain ⟨x, m, i, ns, hb, gb, gc, hx, hns, hm0, hm1, hi, hl⟩ := bag b _ hB
    have hcb : c ≠ b := ne_of_none gc gb
    have hc : H c = some (.lst (ns.map V.int)) := sub _ _ gc
    -- the end: any bag, any drawn number
    have fin : ∀ (x' m' i' d : Int) (H' : Hp), (∀ a, a ≠ b → H' a = H a) → H' b = some (bagL x' m' i' c) → 0 ≤ x' → 0 ≤ m' → m' < 2147483647 → 0 ≤ i' → 0 ≤ d → d < n → Q (.int d) H' := by
      intro x' m' i' d H' he hb' h1 h2 h3 h4 h5 h6
      refine q d h5 h6 (.int d) H' G ⟨Same.refl _, fun a o e => ?_, fun b2 c2 e2 => ?_, fun a o e nb => ?_, fun a o e => ?_, fun a o e => .inl e, .int d, fun z => (nomatch z), fun z => (nomatch z)⟩
      · rw [he a (ne_of_none e gb)]; exact sub _ _ e
      · by_cases h2b : b2 = b
        · subst h2b
          have z := bag _ c2 e2
          cases c2 with
          | bag c3 =>
            obtain ⟨_, _, _, _, y, _⟩ := z
            rw [hb] at y
            cases y
            exact ⟨x', m', i', ns, hb', gb, gc, h1, hns, h2, h3, h4, hl⟩
          | cnt =>
            obtain ⟨_, y, _⟩ := z
            rw [hb] at y
            cases y
        · exact (bag b2 c2 e2).up (he b2 h2b) (Same.refl _) (bag b2 c2 e2).gn
      · rw [he a (fun z => nb _ (by rw [z]; exact hB))]; exact e
      · by_cases ha : a = b
        · subst ha; rw [hb'] at e; cases e; show (4 : Nat) ≤ sizeLine; decide
        · rw [he a ha] at e; exact sz a o e
    -- behind the first part
    have rest : ∀ (σ : L2.St) (x' m' i' : Int) (H' : Hp), (∃ s2 s3, σ = [some (.ref b), some (.int n), s2, s3, none, none, none]) → (∀ a, a ≠ b → H' a = H a) → H' b = some (bagL x' m' i' c) → 0 ≤ x' → 0 ≤ m' → m' < 2147483647 → 0 ≤ i' →
        (tSeq (tIfS (tTest (tOp rGt2 (tAt K 0) (tC (.int 0)))) (t_take2 K) tNext) (t_take3 K)) { nx := fun _ H2 => Q .non H2, rt := Q } σ H' := by
      rintro σ x' m' i' H' ⟨s2, s3, rfl⟩ he hb' h1 h2 h3 h4
      refine ⟨_, rfl, b, _, 0, .int x', rfl, rfl, SqL.of hb', rfl, _, _, rfl, rfl, _, rfl, ite2 (fun e => ?_) (fun e => ?_)⟩
      · -- drawn
        have hxp : (0 : Int) < x' := of_decide_eq_true e
        refine ⟨_, rfl, b, _, 0, .int x', rfl, rfl, SqL.of hb', rfl, .inl ⟨x', rfl, _, rfl, _, _, rfl, rfl, (by omega : n ≠ 0), ?_⟩⟩
        refine ⟨_, rfl, b, _, 0, .int x', rfl, rfl, SqL.of hb', rfl, .inl ⟨x', rfl, _, rfl, _, _, rfl, rfl, ⟨by omega, by omega⟩, ?_⟩⟩
        refine ⟨_, rfl, b, _, 0, 0, rfl, rfl, hb', rfl, _, rfl, ?_⟩
        refine fin (x'.fdiv n) m' i' (x'.fmod n) _ (fun a ha => by rw [upd_ne ha]; exact he a ha) upd_same (fdiv_nn h1 hn0) h2 h3 h4 (fmod_rng hn0).1 (fmod_rng hn0).2
      · -- mixed
        refine ⟨_, rfl, b, _, 1, .int m', rfl, rfl, SqL.of hb', rfl, _, _, rfl, rfl, _, _, rfl, rfl, .inr ⟨by decide, by decide⟩, .inl ⟨_, rfl, _, _, rfl, rfl, (by decide : (1000000007 : Int) ≠ 0), ?_⟩⟩
        have b1 := fmod_rng (i := (m' + 1) * 39373) (j := 1000000007) (by decide)
        refine ⟨_, rfl, _, rfl, _, _, rfl, rfl, .inl ⟨by omega, by omega⟩, .inl ⟨_, rfl, _, _, rfl, rfl, (by decide : (998244353 : Int) ≠ 0), ?_⟩⟩
        refine ⟨_, _, rfl, rfl, .inr ⟨by decide, by decide⟩, .inl ⟨_, rfl, _, _, rfl, rfl, (by decide : (998244353 : Int) ≠ 0), ?_⟩⟩
        refine ⟨_, rfl, _, _, rfl, rfl, ⟨by decide, by decide⟩, .inl ⟨_, rfl, _, rfl, _, _, rfl, rfl, (by omega : n ≠ 0), ?_⟩⟩
        exact fin x' m' i' _ H' he hb' h1 h2 h3 h4 (fmod_rng hn0).1 (fmod_rng hn0).2
    refine ⟨_, rfl, b, _, 0, .int x, rfl, rfl, SqL.of hb, rfl, rfl, _, rfl, ite2 (fun e => ?_) (fun e => ?_)⟩
    · -- a new number
      have main : ∀ (cell : Int), 0 ≤ cell → (tSeq (tAugS (tVar 0) (tC (.int 2)) (tC (.int 1)) rGetL (ipI fun i j => i + j) rSetL)
          (tSeq (tIfS (tTest (tOp rGe2 (tVar 2) (tC (.int 1000000000000000000)))) (tAsg (tVar 2) (gSub (tVar 0) (tC (.int 0)) rSetL)) tNext)
          (tSeq (tAsg (tOp rAdd2 (tOp rAdd2 (tOp rMul2 (tAt K 1) (tC (.int 48271))) (tOp rMod2 (tI1 (tVar 2)) (tC (.int 2147483647)))) (tOp rMul2 (tC (.int 7919)) (tAt K 2))) (gName 3))
          (tAsg (tOp rMod2 (tI1 (tVar 3)) (tC (.int 2147483647))) (gSub (tVar 0) (tC (.int 1)) rSetL)))))
          { nx := fun σ' H' => (tSeq (tIfS (tTest (tOp rGt2 (tAt K 0) (tC (.int 0)))) (t_take2 K) tNext) (t_take3 K)) { nx := fun _ H2 => Q .non H2, rt := Q } σ' H', rt := Q } [some (.ref b), some (.int n), some (.int cell), none, none, none, none] H := by
        intro cell hcell
        refine ⟨_, rfl, b, _, 2, .int i, rfl, rfl, hb, rfl, _, _, rfl, rfl, b, _, 2, 2, rfl, rfl, hb, rfl, ?_⟩
        have tail : ∀ (x' : Int) (H' : Hp), (∀ a, a ≠ b → H' a = H a) → H' b = some (bagL x' m (i + 1) c) → 0 ≤ x' →
            (tSeq (tAsg (tOp rAdd2 (tOp rAdd2 (tOp rMul2 (tAt K 1) (tC (.int 48271))) (tOp rMod2 (tI1 (tVar 2)) (tC (.int 2147483647)))) (tOp rMul2 (tC (.int 7919)) (tAt K 2))) (gName 3))
            (tAsg (tOp rMod2 (tI1 (tVar 3)) (tC (.int 2147483647))) (gSub (tVar 0) (tC (.int 1)) rSetL)))
            { nx := fun σ' H' => (tSeq (tIfS (tTest (tOp rGt2 (tAt K 0) (tC (.int 0)))) (t_take2 K) tNext) (t_take3 K)) { nx := fun _ H2 => Q .non H2, rt := Q } σ' H', rt := Q } [some (.ref b), some (.int n), some (.int cell), none, none, none, none] H' := by
          intro x' H' he hb' h1
          refine ⟨_, rfl, b, _, 1, .int m, rfl, rfl, SqL.of hb', rfl, _, _, rfl, rfl, .inr ⟨by decide, by decide⟩, ?_⟩
          refine ⟨_, rfl, .inl ⟨_, rfl, _, _, rfl, rfl, (by decide : (2147483647 : Int) ≠ 0), ?_⟩⟩
          refine ⟨_, _, rfl, rfl, _, rfl, b, _, 2, .int (i + 1), rfl, rfl, SqL.of hb', rfl, _, _, rfl, rfl, .inl ⟨by decide, by decide⟩, ?_⟩
          refine ⟨_, _, rfl, rfl, ?_⟩
          refine ⟨_, rfl, .inl ⟨_, rfl, _, _, rfl, rfl, (by decide : (2147483647 : Int) ≠ 0), ?_⟩⟩
          refine ⟨_, rfl, b, _, 1, 1, rfl, rfl, hb', rfl, ?_⟩
          exact rest _ x' _ (i + 1) _ ⟨_, _, rfl⟩ (fun a ha => by rw [upd_ne ha]; exact he a ha) upd_same h1 (fmod_rng (by decide)).1 (fmod_rng (by decide)).2 (by omega)
        refine ⟨_, rfl, _, _, rfl, rfl, _, rfl, ite2 (fun e => ?_) (fun e => ?_)⟩
        · refine ⟨_, rfl, _, rfl, b, _, 0, 0, rfl, rfl, upd_same, rfl, ?_⟩
          exact tail cell _ (fun a ha => by rw [upd_ne ha, upd_ne ha]) upd_same hcell
        · exact tail x _ (fun a ha => by rw [upd_ne ha]) upd_same hx
      refine ⟨_, rfl, b, _, 2, .int i, rfl, rfl, SqL.of hb, rfl, _, rfl, b, _, 3, .ref c, rfl, rfl, SqL.of hb, rfl, _, ns.length, rfl, .inl ⟨_, SqL.of hc, by rw [List.length_map]⟩, _, _, rfl, rfl, _, rfl, ite2 (fun e2 => ?_) (fun e2 => ?_)⟩
      · have hlt : i < ns.length := of_decide_eq_true e2
        have hj : i.toNat < ns.length := by omega
        refine ⟨_, rfl, b, _, 3, .ref c, rfl, rfl, SqL.of hb, rfl, _, rfl, b, _, 2, .int i, rfl, rfl, SqL.of hb, rfl, c, _, i, .int ns[i.toNat], rfl, rfl, SqL.of hc, ?_, ?_⟩
        · have e3 : i = (i.toNat : Int) := by omega
          exact at_of e3 (by rw [List.getElem?_map, List.getElem?_eq_getElem hj]; rfl)
        · exact main _ (hns _ (List.getElem_mem hj))
      · exact main 0 (Int.le_refl _)
    · exact rest _ x m i H ⟨none, none, rfl⟩ (fun _ _ => rfl) hb hx hm0 hm1 hi
end
end DL

set_option Elab.async false
set_option linter.all false
set_option maxRecDepth 100000
set_option maxHeartbeats 4000000
/-! DLD: the bag is made; the law's own frame. -/
namespace DL
open PySem PySem.Spec PyProof.Rows L2
def absI (i : Int) : Int := if i < 0 then -i else i
/-- _law_bag(script) -/
def spBag (K : PySem.W.Frag) : Sp := fun vs H Q _ => ∃ (a : Addr) (ns : List Int), vs = [.ref a] ∧ SqL K H a (ns.map V.int) ∧ ns.length ≤ 63 ∧
  ∀ (H' : Hp) (b c : Addr), Same H H' → H b = none → H c = none → b ≠ c → H' b = some (bagL 0 1234567891 0 c) → H' c = some (.lst ((ns.map absI).map V.int)) → Q (.ref b) H'
def rAbs1 : List V → Hp → VK → Prop := fun xs H Q => ∃ i, xs = [.int i] ∧ Q (.int (if i < 0 then -i else i)) H
def t_bag (K : PySem.W.Frag) : TS := tRet (tLst (tCons (tC (.int 0)) (tCons (tC (.int 1234567891)) (tCons (tC (.int 0)) (tCons
  (tLc (iList K (tSl (rSlL K) (tVar 0) tNoPart (tPart (tC (.int 63))))) (gName 1) tYes (tCB rAbs1 (tCons (tVar 1) tNil)) [1]) tNil)))))
theorem same_up {H : Hp} {p : Addr} {o : HO} (h : H p = none) : Same H (upd H p o) := fun b x e => by rw [upd_ne (ne_of_none e h)]; exact e
theorem cut63 {xs : List V} (h : xs.length ≤ 63) : cutV xs none (some 63) = xs := by
  have e : HT.sIx xs.length xs.length (some 63) = xs.length := by
    have z := HT.sIx_nat xs.length xs.length 63
    rw [show HT.sIx xs.length xs.length (some 63) = min 63 xs.length from z]
    omega
  rw [cutL_V]
  exact cutL_all (HT.sIx_none _ _) e
theorem pure_bag {K : PySem.W.Frag} {vs : List V} {H : Hp} {Q : VK} {E : XK} (h : spBag K vs H Q E) : t_bag K { nx := fun _ H2 => Q .non H2, rt := Q } (L2.start ["a", "b"] vs) H := by
  obtain ⟨a, ns, rfl, hS, hl, q⟩ := h
  refine ⟨_, rfl, 63, rfl, a, _, rfl, hS, fun p hp => ?_⟩
  have s1 : Same H (upd H p (.lst (cutV (ns.map V.int) none (some 63)))) := same_up hp
  rw [cut63 (by rw [List.length_map]; exact hl)] at s1 ⊢
  refine ⟨p, rfl, ⟨_, SqL.of upd_same⟩, fun c hc => ?_⟩
  have nc : c ≠ p := fun e => by rw [e, upd_same] at hc; cases hc
  have hcH : H c = none := by rw [upd_ne nc] at hc; exact hc
  refine lc_list (K := K) (a := p) (xs := ns.map V.int) (fun i H' => Same H H' ∧ H' p = some (.lst (ns.map V.int)) ∧ H' c = some (.lst (((ns.take i).map absI).map V.int)))
    ⟨fun b x e => ?_, ?_, upd_same⟩ (fun i H' _ h => SqL.of h.2.1) (fun i x H' hx h => ?_) (fun H' h => ?_)
  · rw [upd_ne (ne_of_none e hcH)]; exact s1 _ _ e
  · rw [upd_ne nc.symm, upd_same]
  · obtain ⟨h1, h2, h3⟩ := h
    obtain ⟨z, hz, rfl⟩ : ∃ z, ns[i]? = some z ∧ x = V.int z := by
      rw [List.getElem?_map] at hx
      cases e : ns[i]? with
      | none => rw [e] at hx; cases hx
      | some z => rw [e] at hx; exact ⟨z, rfl, (Option.some.inj hx).symm⟩
    refine ⟨rfl, _, rfl, z, rfl, _, h3, ?_, fun b y e => ?_, ?_, ?_⟩
    · rw [List.length_map, List.length_map, List.length_take]
      exact Nat.lt_of_le_of_lt (Nat.min_le_right _ _) (small1000 (by omega))
    · rw [upd_ne (ne_of_none e hcH)]; exact h1 _ _ e
    · rw [upd_ne nc.symm]; exact h2
    · rw [upd_same, List.take_add_one, hz, List.map_append, List.map_append]
      rfl
  · obtain ⟨h1, h2, h3⟩ := h
    rw [List.length_map, List.take_length] at h3
    refine ⟨(by show (4 : Nat) ≤ sizeLine; decide), fun b hb => ?_⟩
    have nb : b ≠ c := fun e => by rw [e, h3] at hb; cases hb
    refine q _ b c (fun x y e => ?_) (h1.free hb) hcH nb upd_same (by rw [upd_ne nb.symm]; exact h3)
    rw [upd_ne (ne_of_none (h1 _ _ e) hb)]; exact h1 _ _ e
/-- the law -/
def spLaw (K : PySem.W.Frag) : Sp := fun vs H Q _ => ∃ (a : Addr) (ns : List Int), vs = [.ref a] ∧ SqL K H a (ns.map V.int) ∧ ns.length ≤ 63 ∧ ∀ H', Q (.bl true) H'
theorem PSs.sz {X : Cx} {sts : List Stmt} {t : TS} (h : PSs X sts t) : PSs X sts (fun D σ H => HSz H → t D σ H) := ⟨fun pins s σ H D I q => h.run pins s σ H D I (q (HSz.of I.hok))⟩
theorem pure_law {X : Cx} {K : PySem.W.Frag} {N : List Str} {i : Nat} {tR : TDS} {vs : List V} {H : Hp} {Q : VK} {E : XK} (hX : X.K = K) (mono : MonoS tR) (hi : i < N.length) (h1 : 1 ≤ N.length) (hR : tR { nx := fun _ => False, rt := fun r _ => r = .dt (.bl true) } ((List.replicate N.length Sl.no).set i .bag)) (h : spLaw K vs H Q E) :
    (tSeq (tAsg (tCall (spBag K) [] E0 (tCons (tVar 0) tNil)) (gName i)) (fun D σ H => HSz H → tyS X tR D σ H)) { nx := fun _ H2 => Q .non H2, rt := Q } (L2.start N vs) H := by
  subst hX
  obtain ⟨a, ns, rfl, hS, hl, q⟩ := h
  have e0 : (L2.start N [V.ref a])[0]? = some (some (.ref a)) := rfl
  refine ⟨_, e0, a, ns, rfl, hS, hl, fun H' b c sm hb hc nbc eb ec sz => ?_⟩
  let G : Hp := fun x => if x = c then H' c else none
  have gc : G c = H' c := if_pos rfl
  have gn : ∀ x, x ≠ c → G x = none := fun x hx => if_neg hx
  have len : ((L2.start N [V.ref a]).set i (some (.ref b))).length = N.length := by
    rw [List.length_set]
    unfold L2.start
    rw [List.length_append, List.length_map, List.length_replicate]
    show 1 + (N.length - 1) = N.length
    omega
  have only : ∀ (j : Nat) (s : Sl), ((List.replicate N.length Sl.no).set i .bag)[j]? = some s → s = .no ∨ (j = i ∧ s = .bag) := fun j s e => by
    rcases getSet e with ⟨z1, z2, z3⟩ | ⟨z1, z2⟩ | ⟨_, _, z⟩
    · exact .inr ⟨z1.symm, z3⟩
    · rw [List.getElem?_replicate] at z2
      split at z2
      · cases z2; exact .inl rfl
      · cases z2
    · exact z.elim
  have noOwn : ∀ j x, ¬ Own ((L2.start N [V.ref a]).set i (some (.ref b))) ((List.replicate N.length Sl.no).set i .bag) j x := fun j x ⟨_, s, e2, io⟩ => by
    rcases only j s e2 with rfl | ⟨_, rfl⟩ <;> cases io
  have R : Rel X.K [(b, Cell.bag c)] H' G H' ((L2.start N [V.ref a]).set i (some (.ref b))) ((List.replicate N.length Sl.no).set i .bag) G := by
    refine ⟨fun x o e => ?_, Same.refl _, fun _ _ e _ => e, ?_, fun j s e => ?_, fun j k x h => (noOwn j x h).elim, fun j x h => (noOwn j x h).elim, fun b2 c2 e => ?_, fun _ _ e => .inl e, sz⟩
    · by_cases hx : x = c
      · subst hx; rw [gc] at e; exact e
      · rw [gn x hx] at e; cases e
    · rw [len, List.length_set, List.length_replicate]
    · rcases only j s e with z | ⟨z1, z2⟩
      · exact .inl z
      · subst z1; subst z2
        refine .inr ⟨.ref b, ?_, b, c, List.mem_singleton.mpr rfl, rfl⟩
        rw [List.getElem?_set_self]
        rw [List.length_set] at len
        rw [len]; exact hi
    · cases List.mem_singleton.mp e
      refine ⟨0, 1234567891, 0, ns.map absI, eb, gn b nbc, gc.trans ec, Int.le_refl _, fun n hn => ?_, by decide, by decide, Int.le_refl _, by rw [List.length_map]; exact hl⟩
      obtain ⟨m, _, rfl⟩ := List.mem_map.mp hn
      unfold absI
      split <;> omega
  have le : EndsD.le { nx := fun _ => False, rt := fun r _ => r = .dt (.bl true) } (endsOf X [(b, Cell.bag c)] H' G { nx := fun _ H2 => Q .non H2, rt := Q }) :=
    ⟨fun _ z => z.elim, fun r δ z v σ2 H2 G2 _ ok => by
      cases (show r = .dt (.bl true) from z)
      cases ok.1
      exact q H2, fun _ z => z.elim, fun _ z => z.elim, fun _ _ _ _ z => z.elim⟩
  exact ⟨[(b, Cell.bag c)], H', G, _, G, R, mono _ _ _ le hR⟩
end DL

set_option Elab.async false
set_option linter.all false
set_option maxRecDepth 100000
set_option maxHeartbeats 4000000
/-! DLE: a head's facts by a Bool of one's own and the defs' objects. -/
namespace DL
open PySem PySem.Spec PyProof.Rows L2
def obsX (chk : PySem.W.Frag → Bool) (fn : List He.DefD) (K : PySem.W.Frag) : He.AlD := (chk K && fn.all fun d => d.ok K, fn.map fun d => He.fnW K d.at_)
def SaysX (chk : PySem.W.Frag → Bool) (fn : List He.DefD) (K : PySem.W.Frag) : Prop := obsX chk fn K = He.valD fn
def obsXG (n : Nat) (chk : PySem.W.Frag → Bool) (fn : List He.DefD) (g : Addr → Option Obj) : He.AlD := obsX chk fn (He.frG g (He.asD g n))
def hookX (n : Nat) (chk : PySem.W.Frag → Bool) (fn : List He.DefD) : PySem.W.Hook where
  α := He.AlD
  obs := fun s => obsXG n chk fn s.heap.get?
  val := fun _ => He.valD fn
  says := fun _ h => ∃ K : PySem.W.Frag, K.In h ∧ SaysX chk fn K
  of := fun _ _ e => ⟨_, He.frG_in, e⟩
  keeps := fun _ _ _ ⟨K, hK, c⟩ k => ⟨K, PySem.W.Frag.In.keeps hK k, c⟩
theorem obsXG_eq {n : Nat} {chk : PySem.W.Frag → Bool} {fn : List He.DefD} {g : Addr → Option Obj} {s : Shared} (h : ∀ a, g a = s.heap.get? a) : obsXG n chk fn g = (hookX n chk fn).obs s := by
  have e : g = s.heap.get? := funext h
  subst e
  rfl
section
variable {chk : PySem.W.Frag → Bool} {fn : List He.DefD} {K : PySem.W.Frag}
theorem SaysX.yes (c : SaysX chk fn K) : chk K = true := by
  have z := congrArg (fun z : He.AlD => z.1) c
  exact (Bool.and_eq_true_iff.mp (show (chk K && fn.all fun d => d.ok K) = true from z)).1
theorem SaysX.def_ (c : SaysX chk fn K) (i : Nat) {d : He.DefD} (h : fn[i]? = some d := by rfl) : ∃ fd, FunD K d.name d.qual d.params d.body d.scope (d.dvs K) (d.kws K) (He.fAd K d.at_) fd := by
  have z := congrArg (fun z : He.AlD => z.1) c
  have c2 := (Bool.and_eq_true_iff.mp (show (chk K && fn.all fun d => d.ok K) = true from z)).2
  have e : fn.map (fun d => He.fnW K d.at_) = fn.map He.DefD.val := congrArg (fun z : He.AlD => z.2) c
  have e2 : (fn.map fun d => He.fnW K d.at_)[i]? = (fn.map He.DefD.val)[i]? := by rw [e]
  rw [List.getElem?_map, List.getElem?_map, h] at e2
  exact He.DefD.funD (Option.some.inj e2) (List.all_eq_true.mp c2 d (List.mem_of_getElem? h))
end
/-- a def without defaults -/
theorem fun_of {K : PySem.W.Frag} {x qual : Str} {st : Stmt} {f : Addr} {fd : FuncData} (F : FunD K x qual (defArgs st) (defBody st) (defScope st) [] [] f fd) : Fun K x qual st f fd := by
  obtain ⟨oc, od, dV, kV, doc, pm, an, cdv, ct, osl, e, lk, hcd, hD, hK⟩ := F.ex
  rcases hD with ⟨_, rfl⟩ | ⟨z, _⟩
  · exact ⟨⟨oc, od, kV, doc, pm, an, cdv, ct, osl, e, lk, hcd⟩, F.kp⟩
  · exact absurd rfl z
def dfd (x : Str) (st : Stmt) : He.DefD := ⟨(x, none), x, x, defArgs st, defBody st, defScope st, [], []⟩
theorem Dfn.of {K : PySem.W.Frag} {mg : Str → Option Value} {h : Heap} {x : Str} {st : Stmt} {ps : List Str} (X : K.In h) (G : h.Ns mainGlobals mg) (cg : (He.Fa.glo x).ok K = true)
    (F : ∃ fd, FunD K (dfd x st).name (dfd x st).qual (dfd x st).params (dfd x st).body (dfd x st).scope ((dfd x st).dvs K) ((dfd x st).kws K) (He.fAd K (dfd x st).at_) fd)
    (hb : ∀ (kV doc pm : Value) (an : Option Addr) (cdv ct : Value) (us : List Value), us.length = ps.length → bindArgs (PySem.W.fnOf x x (defArgs st) (defBody st) (defScope st) .none kV doc pm an cdv ct) ⟨us, []⟩ = pure (ps.zip us)) : Dfn K mg x st ps := by
  obtain ⟨fd, F⟩ := F
  have F' : Fun K x x st (He.ga K x) fd := fun_of F
  exact ⟨He.ga K x, fd, F', He.glo_ok X G cg, F'.binds hb⟩
/-- the law's frame: its first statement makes the bag -/
theorem law_fn {P : Program} {w : World} {K : PySem.W.Frag} {mg : Str → Option Value} {base : Heap} {st s1 : Stmt} {rest : List Stmt} {f : Addr} {fd : FuncData} {N : List Str} {k i : Nat} {x : Str}
    (F : Fun K "law" "law" st f fd) (S : FnScope N [x] (defScope st)) (hbod : defBody st = s1 :: rest) (hi : i < N.length) (h1 : 1 ≤ N.length)
    (hb : ∀ (cdv : Value) (A : Around) (outer : List Env) (s : Shared) (H : Hp) (E : XK), Ng A → Room k (A.deeper (envOfC "law" (defScope st) s.heap.objs.size f cdv)) →
      PS (cxOf CX0 P w K mg base N "law" (defScope st) f cdv A outer s H E).nox s1 (tAsg (tCall (spBag K) [] E0 (tCons (tVar 0) tNil)) (gName i)) ∧
      ∃ tR, PDSs (cxOf CX0 P w K mg base N "law" (defScope st) f cdv A outer s H E).nox rest tR ∧ tR { nx := fun _ => False, rt := fun r _ => r = .dt (.bl true) } ((List.replicate N.length Sl.no).set i .bag)) :
    FnG P w K mg base (k + 1) f fd [x] (spLaw K) := by
  refine fun_okG F S (fun vs H Q E h => ?_) fun cdv A outer s H vs Q E gd hr want => ?_
  · obtain ⟨a, ns, rfl, _⟩ := h; rfl
  · obtain ⟨p1, tR, p2, q⟩ := hb cdv A outer s H E gd hr
    rw [hbod]
    exact ⟨_, pss_cons p1 (PSs.sz p2.ps), pure_law (X := (cxOf CX0 P w K mg base N "law" (defScope st) f cdv A outer s H E).nox) rfl p2.mono hi h1 q want⟩
end DL

set_option Elab.async false
set_option linter.all false
set_option maxRecDepth 100000
set_option maxHeartbeats 4000000
/-! DLF: more rules: text * int, displayed dicts, chains as tests, constants of the module. -/
namespace DL
open PySem PySem.Spec PyProof.Rows L2
theorem boot_intT : bootBuiltins "int" = some (.type Ty.int.name) := by decide +kernel
theorem boot_boolT : bootBuiltins "bool" = some (.type Ty.bool.name) := by decide +kernel
theorem boot_strT : bootBuiltins "str" = some (.type Ty.str.name) := by decide +kernel
theorem boot_listT : bootBuiltins "list" = some (.type Ty.list.name) := by decide +kernel
theorem boot_tupleT : bootBuiltins "tuple" = some (.type Ty.tuple.name) := by decide +kernel
theorem boot_dictT : bootBuiltins "dict" = some (.type Ty.dict.name) := by decide +kernel
/-! ### text * int -/
def repS (z : Str) (k : Nat) : Str := ⟨(List.replicate k z.cps.toList).flatten.toArray⟩
theorem repS_eq (z : Str) (k : Nat) : (⟨(List.replicate k z.cps).foldl (· ++ ·) #[]⟩ : Str) = repS z k := by
  have h : ∀ (k : Nat) (acc : Array Nat), ((List.replicate k z.cps).foldl (· ++ ·) acc) = acc ++ (List.replicate k z.cps.toList).flatten.toArray := by
    intro k
    induction k with
    | zero => intro acc; simp
    | succ k ih =>
      intro acc
      rw [List.replicate_succ, List.foldl_cons, ih, List.replicate_succ, List.flatten_cons, Array.append_assoc]
      congr 1
      simp
  unfold repS
  rw [h]
  simp
def rRepS : R2 := fun x y H Q => ∃ z k, x = .str z ∧ y = .int k ∧ 2 ≤ k ∧ 0 < z.length ∧ z.length * k.toNat ≤ sizeLine ∧ Q (.str (repS z k.toNat)) H
theorem repS_len (z : Str) (k : Nat) : (repS z k).length = z.length * k := by
  show (List.replicate k z.cps.toList).flatten.toArray.size = z.cps.size * k
  simp [Nat.mul_comm]
theorem op_rep_str {X : Cx} : OpR X (binaryOp .Mult) rRepS := by
  intro pins s σ H x y v u Q I rx ry h
  obtain ⟨z, k, rfl, rfl, h2, h0, hz, q⟩ := h
  obtain ⟨t, rfl⟩ := rx
  obtain ⟨t', rfl⟩ := ry
  have hk : k.toNat ≤ sizeLine := by
    refine Nat.le_trans ?_ hz
    exact Nat.le_mul_of_pos_left _ h0
  have hs := sizeLine_eq
  have n1 : ¬ k < 1 := by omega
  have n2 : (k == 1 || z.length == 0) = false := by
    have a1 : (k == 1) = false := by rw [beq_eq_false_iff_ne]; omega
    have a2 : (z.length == 0) = false := by rw [beq_eq_false_iff_ne]; omega
    rw [a1, a2]; rfl
  refine PySem.P.mul_str ?_ (fun _ _ => ?_) (fun _ _ => ?_) ?_
  · rw [decide_eq_false (by omega), decide_eq_false (by omega)]; rfl
  · have e : (z.length : Int) * k ≤ 16777216 := by
      have z2 : ((z.length * k.toNat : Nat) : Int) ≤ (16777216 : Nat) := by rw [← hs]; exact Int.ofNat_le.mpr hz
      rw [Int.natCast_mul, Int.toNat_of_nonneg (by omega)] at z2
      exact z2
    have p : (z.length : Int) ≤ (2 ^ 63 - 1) / k := (Int.le_ediv_iff_mul_le (by omega)).mpr (by omega)
    omega
  · exact decide_eq_false (by show ¬ (z.length * k.toNat > sizeLine); omega)
  · rw [if_neg n1, n2, if_neg Bool.false_ne_true]
    rw [repS_eq]
    refine ⟨?_, .str _, H, I.tok _, ⟨_, rfl⟩, q⟩
    rw [repS_len]; exact hz
def fMulS : FD2 := fun d e δ Q => match d, e with
  | .int i, .int j => CMul i j ∧ Q (.dt (.int (i * j))) δ
  | .lst xs, .int k => -(2 ^ 63) ≤ k ∧ k < 2 ^ 63 ∧ xs.length * k.toNat ≤ sizeLine ∧ Q (.ol (List.replicate k.toNat xs).flatten) δ
  | .str z, .int k => 2 ≤ k ∧ 0 < z.length ∧ z.length * k.toNat ≤ sizeLine ∧ Q (.dt (.str (repS z k.toNat))) δ
  | _, _ => False
theorem mono_fMulS : MonoF2 fMulS := fun d e δ Q Q' q w => by
  unfold fMulS at q ⊢
  split at q
  · exact ⟨q.1, w _ _ q.2⟩
  · exact ⟨q.1, q.2.1, q.2.2.1, w _ _ q.2.2.2⟩
  · exact ⟨q.1, q.2.1, q.2.2.1, w _ _ q.2.2.2⟩
  · exact q
theorem opS_mulS {K : PySem.W.Frag} : OpS K (fun x y H Q => rMulD x y H Q ∨ rRepS x y H Q) fMulS := by
  intro B H0 G0 H σ δ G x y d e Q R hx hy q
  unfold fMulS at q
  split at q
  · exact .inl (opS_mul B H0 G0 H σ δ G x y _ _ Q R hx hy q)
  · exact .inl (opS_mul B H0 G0 H σ δ G x y _ _ Q R hx hy q)
  · cases hx; cases hy
    exact .inr ⟨_, _, rfl, rfl, q.1, q.2.1, q.2.2.1, aft_here R (.str _) q.2.2.2⟩
  · exact q.elim
section
variable {X : Cx} {a b c e : Expr} {ta tb tc : TD} {pos : Pos}
theorem pd_mulS (ha : PD X a ta) (hb : PD X b tb) : PD X (.BinOp a .Mult b pos) (td2 fMulS ta tb) := pd_op (opR_or opR_mulD op_rep_str) mono_fMulS opS_mulS ha hb
theorem pds_retN : PDS X (.Return none pos) (fun D δ => D.rt (.dt .non) δ) := ⟨PS.weak ps_retN fun D σ H ⟨B, H0, G0, δ, G, R, q⟩ => q .non σ H G R (resOk_dt .non), fun D D' δ w q => w.rt _ _ q⟩
/-! ### chains as tests -/
theorem pdt_chain {op op' : CmpOp} {r r' : R2} {f g : FD2} (ho : OpR X (compareOp op) r) (ho' : OpR X (compareOp op') r') (mf : MonoF2 f) (mg : MonoF2 g) (o : OpS X.K r f) (o' : OpS X.K r' g) (ha : PD X a ta) (hb : PD X b tb) (hc : PD X c tc)
    (hm : lastMarks [op, op'] [b, c] = false := by with_unfolding_all rfl) : PDT X (.Compare a [op, op'] [b, c] pos) (tdBool (tdChain f g ta tb tc)) := by
  have h := pd_chain (pos := pos) ho ho' mf mg o o' ha hb hc hm
  refine pdt_cmp h (PT.weak (pt_chain ho ho' ha.pe hb.pe hc.pe hm) fun σ H Q q => ?_)
  exact chain_run ha.mono hb.mono hc.mono mf mg o o' σ H _ q
end
end DL

set_option Elab.async false
set_option linter.all false
set_option maxRecDepth 100000
set_option maxHeartbeats 4000000
/-! DLG: displayed dicts; the module's constants. -/
namespace DL
open PySem PySem.Spec PyProof.Rows L2
def keyOf : Sl → Option Key
  | .dt (.int i) => some (.inl i)
  | .dt (.str x) => some (.inr x)
  | _ => none
def dispD : List (TD × TD) → List Sl → List Key → List D → (List Key → List D → Prop) → Prop
  | [], _, ks, ds, Q => Q ks ds
  | (tk, tv) :: r, δ, ks, ds, Q => tk δ fun a δ1 => δ1 = δ ∧ match keyOf a with
    | none => False
    | some k => tv δ fun b δ2 => δ2 = δ ∧ match fz b with
      | none => False
      | some d => dispD r δ (ks ++ [k]) (ds ++ [d]) Q
def tdDisp (ps : List (TD × TD)) : TD := fun δ Q => dispD ps (hideOwn δ) [] [] fun ks ds => ks.Nodup ∧ ks.length ≤ 15 ∧ Q (.oK ks ds) δ
def MonoP (ps : List (TD × TD)) : Prop := ∀ p ∈ ps, MonoD p.1 ∧ MonoD p.2
theorem dispD_mono : ∀ {ps : List (TD × TD)} {δ : List Sl} {ks : List Key} {ds : List D} {Q Q' : List Key → List D → Prop}, MonoP ps → (∀ ks ds, Q ks ds → Q' ks ds) → dispD ps δ ks ds Q → dispD ps δ ks ds Q'
  | [], _, _, _, _, _, _, w, h => w _ _ h
  | (tk, tv) :: r, δ, ks, ds, Q, Q', m, w, h => (m _ List.mem_cons_self).1 _ _ _ h fun a δ1 h => ⟨h.1, by
      have h2 := h.2
      split
      · rename_i e; rw [e] at h2; exact h2
      · rename_i k e
        rw [e] at h2
        refine (m _ List.mem_cons_self).2 _ _ _ h2 fun b δ2 h3 => ⟨h3.1, ?_⟩
        have h4 := h3.2
        split
        · rename_i e; rw [e] at h4; exact h4
        · rename_i d e; rw [e] at h4; exact dispD_mono (fun p hp => m p (List.mem_cons_of_mem _ hp)) w h4⟩
theorem keyOf_ok {K : PySem.W.Frag} {B : Bg} {H0 H G : Hp} {σ : L2.St} {δ : List Sl} {v : V} {a : Sl} {k : Key} (ok : ResOk K B H0 H σ δ G v a) (e : keyOf a = some k) : v = kV k := by
  unfold keyOf at e
  split at e
  · cases e; cases ok.1; rfl
  · cases e; cases ok.1; rfl
  · cases e
theorem merge_nd : ∀ (more acc : List (Key × V)), ((acc ++ more).map (·.1)).Nodup → mergeK acc more = acc ++ more
  | [], acc, _ => by show acc = acc ++ []; rw [List.append_nil]
  | (k, v) :: more, acc, h => by
    show mergeK (putK acc k v) more = acc ++ (k, v) :: more
    have nk : valV acc k = none := by
      cases q : valV acc k with
      | none => rfl
      | some y =>
        exfalso
        have hm : k ∈ acc.map (·.1) := by
          unfold valV at q
          obtain ⟨p, hp, _⟩ := Option.map_eq_some_iff.mp q
          have h1 := List.mem_of_find?_eq_some hp
          have h2 := List.find?_some hp
          exact List.mem_map.mpr ⟨p, h1, of_decide_eq_true (by simpa using h2)⟩
        rw [List.map_append] at h
        exact (List.nodup_append.mp h).2.2 k hm k (by simp) rfl
    rw [putK_new v nk, merge_nd more (acc ++ [(k, v)]) (by simpa using h), List.append_assoc]
    rfl
theorem pairs_run {K : PySem.W.Frag} {B : Bg} {H1 G1 : Hp} {σ : L2.St} {δ : List Sl} {C : List (V × V) → Hp → Prop} : ∀ (ps : List (TD × TD)) (ks : List Key) (ds : List D) (vs : List V) (H2 G2 : Hp) (Qd : List Key → List D → Prop), MonoP ps →
    Rel K B H1 G1 H2 σ δ G2 → ks.length = vs.length → DdA K G2 vs ds → dispD ps δ ks ds Qd →
    (∀ ks' ds' vs' H3 G3, Rel K B H1 G1 H3 σ δ G3 → ks'.length = vs'.length → DdA K G3 vs' ds' → Qd ks' ds' → C ((ks'.zip vs').map fun kv => (kV kv.1, kv.2)) H3) →
    tPairs (ps.map fun p => (tyE K p.1, tyE K p.2)) σ H2 (fun more H3 => C (((ks.zip vs).map fun kv => (kV kv.1, kv.2)) ++ more) H3)
  | [], ks, ds, vs, H2, G2, Qd, _, R, hl, hA, h, fin => by
    show C (((ks.zip vs).map fun kv => (kV kv.1, kv.2)) ++ []) H2
    rw [List.append_nil]
    exact fin ks ds vs H2 G2 R hl hA h
  | (tk, tv) :: r, ks, ds, vs, H2, G2, Qd, m, R, hl, hA, h, fin => by
    obtain ⟨m1, m2⟩ := m _ List.mem_cons_self
    refine ⟨B, H1, G1, δ, G2, R, m1 _ _ _ h fun a δ1 h1 x H3 G3 R3 s3 f3 ok3 => ?_⟩
    obtain ⟨rfl, h1⟩ := h1
    cases ek : keyOf a with
    | none => rw [ek] at h1; exact h1.elim
    | some k =>
      rw [ek] at h1
      have ex := keyOf_ok ok3 ek
      refine ⟨B, H1, G1, δ1, G3, R3, m2 _ _ _ h1 fun b δ2 h2 y H4 G4 R4 s4 f4 ok4 => ?_⟩
      obtain ⟨rfl, h2⟩ := h2
      cases ed : fz b with
      | none => rw [ed] at h2; exact h2.elim
      | some d =>
        rw [ed] at h2
        obtain ⟨G5, R5, s5, hd⟩ := freeze R4 ok4 ed
        have z := pairs_run r (ks ++ [k]) (ds ++ [d]) (vs ++ [y]) H4 G5 Qd (fun p hp => m p (List.mem_cons_of_mem _ hp)) R5 (by simp [hl]) ((DdA.mono ((s3.trans s4).trans s5) _ _ hA).append (.one hd)) h2 fin
        rw [List.zip_append hl, List.map_append] at z
        subst ex
        have e : ∀ more : List (V × V), (ks.zip vs).map (fun kv => (kV kv.1, kv.2)) ++ (kV k, y) :: more = (ks.zip vs).map (fun kv => (kV kv.1, kv.2)) ++ ([k].zip [y]).map (fun kv => (kV kv.1, kv.2)) ++ more := fun more => by simp
        show tPairs _ σ H4 (fun more H5 => C (((ks.zip vs).map fun kv => (kV kv.1, kv.2)) ++ (kV k, y) :: more) H5)
        simp only [e]
        exact z
structure PDP (X : Cx) (pos : Pos) (keys : List (Option Expr)) (values : List Expr) (ps : List (TD × TD)) : Prop where
  pp : PPs X pos keys values (ps.map fun p => (tyE X.K p.1, tyE X.K p.2))
  mono : MonoP ps
section
variable {X : Cx} {pos : Pos} {k v : Expr} {ks : List (Option Expr)} {vs : List Expr} {tk tv : TD} {ps : List (TD × TD)}
theorem pdp_nil : PDP X pos [] [] [] := ⟨pps_nil, fun _ h => (List.not_mem_nil h).elim⟩
theorem pdp_cons (hk : PD X k tk) (hv : PD X v tv) (hr : PDP X pos ks vs ps) : PDP X pos (some k :: ks) (v :: vs) ((tk, tv) :: ps) := ⟨pps_cons hk.pe hv.pe hr.pp, fun p hp => by
  rcases List.mem_cons.mp hp with rfl | hp
  · exact ⟨hk.mono, hv.mono⟩
  · exact hr.mono p hp⟩
theorem pd_disp {keys : List (Option Expr)} {values : List Expr} (h : PDP X pos keys values ps) (hall : keys.all (·.isSome) = true) (hl : keys.length = values.length) (h0 : keys ≠ []) (h15 : keys.length ≤ 15) : PD X (.Dict keys values pos) (tdDisp ps) := by
  refine ⟨PE.weak (pe_disp h.pp hall hl h0 h15) fun σ H Q ⟨B, H0, G0, δ, G, R, q⟩ => fun p hp => ?_, fun δ Q Q' q w => dispD_mono h.mono (fun ks ds q => ⟨q.1, q.2.1, w _ _ q.2.2⟩) q⟩
  obtain ⟨p0, pB, pO⟩ := R.newOwn hp
  have R1 : Rel X.K B H0 G0 (upd H p (.dK [])) σ δ G := R.laidO hp (Nat.zero_le _)
  have z := pairs_run (C := fun prs H2 => H2 p = some (.dK []) ∧ ∃ kvs : List (Key × V), prs = kvs.map (fun kv => (kV kv.1, kv.2)) ∧ kvs.length ≤ 15 ∧ Q (.ref p) (upd H2 p (.dK (mergeK [] kvs)))) ps [] [] [] _ _ _ h.mono R1.inner rfl .nil q
    (fun ks' ds' vs' H3 G3 R3 hl3 hA3 q3 => ?_)
  · exact z
  · have e1 : H3 p = some (.dK []) := R3.ent _ _ upd_same pB
    have g3 : G3 p = none := by
      cases y : G3 p with
      | none => rfl
      | some o =>
        rcases R3.gn _ _ y with y | y
        · rw [R.sub.free hp] at y; cases y
        · rw [upd_same] at y; cases y
    obtain ⟨nd, n15, q4⟩ := q3
    have lz : (ks'.zip vs').length = ks'.length := by rw [List.length_zip, ← hl3, Nat.min_self]
    have em : mergeK [] (ks'.zip vs') = ks'.zip vs' := merge_nd _ _ (by
      rw [List.nil_append, List.map_fst_zip (Nat.le_of_eq hl3)]; exact nd)
    refine ⟨e1, ks'.zip vs', rfl, by rw [lz]; exact n15, ?_⟩
    rw [em]
    have R4 : Rel X.K B H0 G0 H3 σ δ G3 := R1.outer R3
    have so : SzO (.dK (ks'.zip vs')) := by
      show (ks'.zip vs').length ≤ sizeLine
      rw [lz]
      exact Nat.le_trans n15 (by decide)
    have R5 := R4.writeFree (o := .dK (ks'.zip vs')) p0 g3 pB (fun j oj => pO j oj) so
    refine q4 (.ref p) _ G3 R5 R3.g0 (fun a o e n => ?_) ⟨⟨p, rfl, g3, vs', hl3, upd_same, hA3⟩, fun z => (nomatch z), fun _ a e => ?_⟩
    · have na : a ≠ p := ne_of_none e hp
      rw [upd_ne na]
      exact R3.ent a o (by rw [upd_ne na]; exact e) n
    · cases e; exact ⟨p0, pB, pO⟩
end
/-! ### constants of the module -/
section
variable {X : Cx} {pos : Pos} {x : Str}
theorem pd_gint {v : Int} (h : ∃ t, X.mg x = some (.int v t)) (hg : Gl X x) (hd : (x == ("__debug__" : Str)) = false := by decide) : PD X (.Name x pos) (tdC (.int v)) := by
  obtain ⟨t, h⟩ := h
  exact pd_c (v := .int v) (pe_glob hg h ⟨t, rfl⟩ hd) fun _ => .int v
theorem pd_gtup {a : Addr} {vs : List V} {ds : List D} (h : X.mg x = some (.ref a)) (ht : ∀ G, SqT X.K G a vs) (hA : ∀ G, DdA X.K G vs ds) (hg : Gl X x) (hd : (x == ("__debug__" : Str)) = false := by decide) : PD X (.Name x pos) (tdC (.tup ds)) :=
  pd_c (v := .ref a) (pe_glob hg h rfl hd) fun G => .tup (ht G) (hA G)
end
end DL

set_option Elab.async false
set_option linter.all false
set_option maxRecDepth 100000
set_option maxHeartbeats 4000000
/-! DLH: plain facts of data for use in laws: promises of one shape, comprehensions that are maps, filters or draws, what can be shown. -/
namespace DL
open PySem PySem.Spec PyProof.Rows L2
/-! ### promises of one shape -/
def tf1 (pre : D → Prop) (f : D → Sl) : TF := fun rs Q => match rs with
  | [.dt d] => pre d ∧ Q (f d)
  | _ => False
theorem mono_tf1 {pre : D → Prop} {f : D → Sl} : MonoF (tf1 pre f) := fun rs Q Q' q w => by
  unfold tf1 at q ⊢
  split at q
  · exact ⟨q.1, w _ q.2⟩
  · exact q
theorem len_tf1 {pre : D → Prop} {f : D → Sl} : ∀ rs Q, tf1 pre f rs Q → rs.length = 1 := fun rs Q q => by
  unfold tf1 at q
  split at q
  · rfl
  · exact q.elim
theorem tf1_in {pre : D → Prop} {f : D → Sl} {rs : List Sl} {Q : Sl → Prop} (h : tf1 pre f rs Q) : ∃ d, rs = [.dt d] ∧ pre d ∧ Q (f d) := by
  unfold tf1 at h
  split at h
  · exact ⟨_, rfl, h⟩
  · exact h.elim
def tf2 (pre : D → D → Prop) (f : D → D → Sl) : TF := fun rs Q => match rs with
  | [.dt d, .dt e] => pre d e ∧ Q (f d e)
  | _ => False
theorem mono_tf2 {pre : D → D → Prop} {f : D → D → Sl} : MonoF (tf2 pre f) := fun rs Q Q' q w => by
  unfold tf2 at q ⊢
  split at q
  · exact ⟨q.1, w _ q.2⟩
  · exact q
theorem len_tf2 {pre : D → D → Prop} {f : D → D → Sl} : ∀ rs Q, tf2 pre f rs Q → rs.length = 2 := fun rs Q q => by
  unfold tf2 at q
  split at q
  · rfl
  · exact q.elim
theorem tf2_in {pre : D → D → Prop} {f : D → D → Sl} {rs : List Sl} {Q : Sl → Prop} (h : tf2 pre f rs Q) : ∃ d e, rs = [.dt d, .dt e] ∧ pre d e ∧ Q (f d e) := by
  unfold tf2 at h
  split at h
  · exact ⟨_, _, rfl, h⟩
  · exact h.elim
/-- draws from the bag alone: any x with P x -/
def tDraw (P : D → Prop) : TF := fun rs Q => match rs with
  | [.bag] => ∀ x, P x → Q (.dt x)
  | _ => False
theorem mono_tDraw {P : D → Prop} : MonoF (tDraw P) := fun rs Q Q' q w => by
  unfold tDraw at q ⊢
  split at q
  · exact fun x h => w _ (q x h)
  · exact q
theorem len_tDraw {P : D → Prop} : ∀ rs Q, tDraw P rs Q → rs.length = 1 := fun rs Q q => by
  unfold tDraw at q
  split at q
  · rfl
  · exact q.elim
theorem tDraw_in {P : D → Prop} {rs : List Sl} {Q : Sl → Prop} (h : tDraw P rs Q) : rs = [.bag] ∧ ∀ x, P x → Q (.dt x) := by
  unfold tDraw at h
  split at h
  · exact ⟨rfl, h⟩
  · exact h.elim
theorem tOne_in {rs : List Sl} {Q : Sl → Prop} (h : tOne rs Q) : ∃ xs, rs = [.bag, .dt (.lst xs)] ∧ 0 < xs.length ∧ xs.length < 1073741824 ∧ ∀ (i : Nat) (x : D), xs[i]? = some x → Q (.dt x) := by
  unfold tOne at h
  split at h
  · exact ⟨_, rfl, h⟩
  · exact h.elim
theorem atI_of {α : Type} {xs : List α} {z : Int} {j : Nat} {v : α} (e : z = (j : Int)) (h : xs[j]? = some v) : L2.atI xs z = some v := by
  have hj := (List.getElem?_eq_some_iff.mp h).1
  unfold L2.atI ixN
  rw [e, if_pos (Int.natCast_nonneg j), if_pos (by omega)]
  show xs[(j : Int).toNat]? = some v
  rw [Int.toNat_natCast]
  exact h
theorem at_match {α : Type} {xs : List α} {i : Int} {x : α} {A : α → Prop} (e : L2.atI xs i = some x) (h : A x) : match L2.atI xs i with
    | some x => A x
    | none => False := by
  rw [e]; exact h
theorem atI_zero {α : Type} {x : α} {xs : List α} : L2.atI (x :: xs) 0 = some x := atI_of (j := 0) rfl rfl
/-! ### comprehensions -/
theorem comp_draw {g : TDG} {te : TD} {δw : List Sl} {P : D → Prop} (hte : ∀ (d : D) (C : D → Prop), (∀ y, P y → C y) → g d δw fun δ1 => te δ1 fun r δ3 => δ3 = δ1 ∧ match fz r with | some y => C y | none => False) (mg : MonoG g) :
    ∀ (ds acc : List D) (Q : List D → Prop), (∀ ys, ys.length = ds.length → (∀ y ∈ ys, P y) → Q (acc ++ ys)) → compD g tdYes te δw ds acc Q
  | [], acc, Q, h => by
    have z := h [] rfl (fun _ hy => (List.not_mem_nil hy).elim)
    rw [List.append_nil] at z
    exact z
  | d :: ds, acc, Q, h => mg _ _ _ _ (hte d (fun y => compD g tdYes te δw ds (acc ++ [y]) Q) fun y hy => comp_draw hte mg ds (acc ++ [y]) Q fun ys hl hys => by
      rw [List.append_assoc]
      exact h (y :: ys) (by rw [List.length_cons, hl, List.length_cons]) fun z hz => by
        rcases List.mem_cons.mp hz with rfl | hz
        · exact hy
        · exact hys z hz) fun δ1 q => ⟨rfl, by rw [if_pos rfl]; exact q⟩
/-- a test and an element that are functions of the item in slot i -/
theorem comp_pure {i : Nat} {tt : TDT} {te : TD} {δw : List Sl} {p : D → Bool} {f : D → D} : ∀ (ds acc : List D) (Q : List D → Prop),
    (∀ d ∈ ds, ∀ (C : Bool → List Sl → Prop), C (p d) (δw.set i (.dt d)) → tt (δw.set i (.dt d)) C) →
    (∀ d ∈ ds, p d = true → ∀ (C : Sl → List Sl → Prop), (∀ r, fz r = some (f d) → C r (δw.set i (.dt d))) → te (δw.set i (.dt d)) C) →
    Q (acc ++ (ds.filter p).map f) → compD (gdName i) tt te δw ds acc Q
  | [], acc, Q, _, _, h => by
    rw [List.filter_nil, List.map_nil, List.append_nil] at h
    exact h
  | d :: ds, acc, Q, ht, he, h => by
    refine ht d List.mem_cons_self _ ⟨rfl, ?_⟩
    have ht' := fun x hx => ht x (List.mem_cons_of_mem d hx)
    have he' := fun x hx => he x (List.mem_cons_of_mem d hx)
    cases e : p d with
    | true =>
      rw [if_pos rfl]
      refine he d List.mem_cons_self e _ fun r hr => ⟨rfl, ?_⟩
      rw [hr]
      refine comp_pure ds _ Q ht' he' ?_
      rw [List.append_assoc]
      rw [List.filter_cons_of_pos e, List.map_cons] at h
      exact h
    | false =>
      rw [if_neg Bool.false_ne_true]
      refine comp_pure ds _ Q ht' he' ?_
      rw [List.filter_cons_of_neg (by rw [e]; exact Bool.false_ne_true)] at h
      exact h
/-! ### what can be shown, by a Bool -/
mutual
def smallB : D → Bool
  | .int i => decide (i.natAbs < 10 ^ 78)
  | .str x => PyData.strOk x
  | .lst xs => smallBA xs
  | .tup xs => smallBA xs
  | .dK ks vs => ks.all smallK && smallBA vs
  | .dT _ _ => false
  | .ins _ _ _ => false
  | _ => true
def smallBA : List D → Bool
  | [] => true
  | x :: xs => smallB x && smallBA xs
end
mutual
theorem smallB_ok : ∀ d : D, smallB d = true → smallD d
  | .non, _ => trivial
  | .bl _, _ => trivial
  | .int i, h => (of_decide_eq_true h : i.natAbs < 10 ^ 78)
  | .str _, h => h
  | .lst xs, h => smallBA_ok xs h
  | .tup xs, h => smallBA_ok xs h
  | .dK ks vs, h => by
    have h' : (ks.all smallK && smallBA vs) = true := h
    rw [Bool.and_eq_true] at h'
    exact ⟨h'.1, smallBA_ok vs h'.2⟩
  | .dT _ _, h => by cases h
  | .ins _ _ _, h => by cases h
theorem smallBA_ok : ∀ xs : List D, smallBA xs = true → smallA xs
  | [], _ => trivial
  | x :: xs, h => by
    have h' : (smallB x && smallBA xs) = true := h
    rw [Bool.and_eq_true] at h'
    exact ⟨smallB_ok x h'.1, smallBA_ok xs h'.2⟩
end
def showB (d : D) : Bool := plainD d && (smallB d && (decide (costD d ≤ sizeLine) && (decide ((py d).depth ≤ 100) && (!(py d).hasDict || noL d))))
theorem showB_ok {d : D} (h : showB d = true) : ShowOk d := by
  unfold showB at h
  simp only [Bool.and_eq_true, Bool.or_eq_true, Bool.not_eq_true', decide_eq_true_eq] at h
  obtain ⟨h1, h2, h3, h4, h5⟩ := h
  exact showOk_of h1 (smallB_ok d h2) h3 h4 h5
/-! ### small scalars -/
/-- None, a bool, an int below 10 ^ 78, a text of plain signs with at most 900 of them -/
def Scal : D → Prop
  | .non => True
  | .bl _ => True
  | .int i => i.natAbs < 10 ^ 78
  | .str x => PyData.strOk x = true ∧ x.length ≤ 90
  | _ => False
theorem Scal.facts {d : D} (h : Scal d) : plainD d = true ∧ smallD d ∧ costD d ≤ 1000 ∧ (py d).depth = 0 ∧ (py d).hasDict = false ∧ (py d).canLay0 = true ∧ d.isIns = false := by
  cases d <;> first | exact h.elim | skip
  · exact ⟨rfl, trivial, by decide, rfl, rfl, rfl, rfl⟩
  · exact ⟨rfl, trivial, by show (5 : Nat) ≤ 1000; decide, rfl, rfl, rfl, rfl⟩
  · exact ⟨rfl, h, by show (80 : Nat) ≤ 1000; decide, rfl, rfl, rfl, rfl⟩
  · exact ⟨rfl, h.1, by show 10 * _ + 2 ≤ 1000; have := h.2; omega, rfl, rfl, h.1, rfl⟩
theorem Scal.show {d : D} (h : Scal d) : ShowOk d := by
  obtain ⟨h1, h2, h3, h4, h5, _⟩ := h.facts
  exact showOk_of h1 h2 (Nat.le_trans h3 (by decide)) (by rw [h4]; decide) (.inl h5)
theorem Scal.shaped {d : D} (h : Scal d) : SeqAt.shaped (py d) = true := by
  obtain ⟨_, _, _, h4, _, h6, _⟩ := h.facts
  unfold SeqAt.shaped
  rw [h6, h4]
  rfl
theorem scalA : ∀ {xs : List D}, (∀ x ∈ xs, Scal x) → plainA xs = true ∧ smallA xs ∧ costA xs ≤ 1002 * xs.length ∧ PyData.depthAll (pyA xs) = 0 ∧ PyData.hasDictAll (pyA xs) = false ∧ PyData.canLayAll0 (pyA xs) = true
  | [], _ => ⟨rfl, trivial, Nat.le_refl _, rfl, rfl, rfl⟩
  | x :: xs, h => by
    obtain ⟨a1, a2, a3, a4, a5, a6, _⟩ := (h x List.mem_cons_self).facts
    obtain ⟨b1, b2, b3, b4, b5, b6⟩ := scalA fun y hy => h y (List.mem_cons_of_mem _ hy)
    refine ⟨?_, ⟨a2, b2⟩, ?_, ?_, ?_, ?_⟩
    · show (plainD x && plainA xs) = true; rw [a1, b1]; rfl
    · show costD x + 2 + costA xs ≤ 1002 * (xs.length + 1); omega
    · show max (py x).depth (PyData.depthAll (pyA xs)) = 0; rw [a4, b4]; rfl
    · show ((py x).hasDict || PyData.hasDictAll (pyA xs)) = false; rw [a5, b5]; rfl
    · show ((py x).canLay0 && PyData.canLayAll0 (pyA xs)) = true; rw [a6, b6]; rfl
theorem scalL_show {xs : List D} (h : ∀ x ∈ xs, Scal x) (hl : xs.length ≤ 10000) : ShowOk (.lst xs) := by
  obtain ⟨b1, b2, b3, b4, b5, b6⟩ := scalA h
  refine showOk_of b1 b2 ?_ ?_ (.inl b5)
  · show costA xs + 3 ≤ sizeLine
    rw [sizeLine_eq]
    omega
  · show PyData.depthAll (pyA xs) + 1 ≤ 100
    rw [b4]; decide
theorem scalL_shaped {xs : List D} (h : ∀ x ∈ xs, Scal x) : SeqAt.shaped (py (.lst xs)) = true := by
  obtain ⟨b1, b2, b3, b4, b5, b6⟩ := scalA h
  unfold SeqAt.shaped
  show (PyData.canLayAll0 (pyA xs) && decide (PyData.depthAll (pyA xs) + 1 ≤ 64)) = true
  rw [b6, b4]
  rfl
theorem eqv_nil (xs : List D) : PyData.eqv (py (.lst xs)) (py (.lst [])) = xs.isEmpty := by
  cases xs <;> rfl
theorem mono_gdName {i : Nat} : MonoG (gdName i) := fun d δ Q Q' q w => w _ q
/-- two parts by what holds between them -/
theorem seq_N {s T : TDS} {D : EndsD} {δ : List Sl} (Inv : List Sl → Prop) (h1 : ∀ N : List Sl → Prop, (∀ δ', Inv δ' → N δ') → s { D with nx := N } δ) (h2 : ∀ δ', Inv δ' → T D δ') : tdSeq s T D δ := h1 _ h2
/-- a loop by what holds between its turns -/
theorem forD_N {g : TDG} {tb : TDS} {D : EndsD} (Inv : List Sl → Prop)
    (step : ∀ d δ (N : List Sl → Prop), (∀ δ', Inv δ' → N δ') → Inv δ → g d δ fun δ1 => tb { D with nx := N, ct := N, bk := D.nx } δ1) (done : ∀ δ, Inv δ → D.nx δ) : ∀ (ds : List DL.D) (δ : List Sl), Inv δ → forD g tb D ds δ
  | [], δ, h => done δ h
  | d :: ds, δ, h => step d δ _ (fun δ' q => forD_N Inv step done ds δ' q) h
theorem if_ne {a : Str} {A B : Prop} (h : B) : if (!decide (a = a)) = true then A else B := by
  rw [decide_eq_true rfl, if_neg (by decide)]; exact h
theorem if_eq {a : Str} {A B : Prop} (h : A) : if decide (a = a) = true then A else B := by
  rw [decide_eq_true rfl, if_pos rfl]; exact h
theorem fEq_same {d : D} {δ : List Sl} {Q : QD} (hs : SeqAt.shaped (py d) = true) (q : Q (.dt (.bl true)) δ) : fEq d d δ Q := by
  unfold fEq
  split
  · rw [decide_eq_true rfl]; exact q
  · exact ⟨hs, hs, by rw [SeqAt.eqv_refl _ (shaped_lay hs)]; exact q⟩
theorem fEq_str {a : Str} {δ : List Sl} {Q : QD} (q : Q (.dt (.bl true)) δ) : fEq (.str a) (.str a) δ Q := by
  show Q (.dt (.bl (decide (a = a)))) δ
  rw [decide_eq_true rfl]; exact q
theorem fNe_same {d : D} {δ : List Sl} {Q : QD} (hs : SeqAt.shaped (py d) = true) (q : Q (.dt (.bl false)) δ) : fNe d d δ Q := by
  unfold fNe
  split
  · rw [decide_eq_true rfl]; exact q
  · exact ⟨hs, hs, by rw [SeqAt.eqv_refl _ (shaped_lay hs)]; exact q⟩
theorem fNe_str {a : Str} {δ : List Sl} {Q : QD} (q : Q (.dt (.bl false)) δ) : fNe (.str a) (.str a) δ Q := by
  show Q (.dt (.bl (!decide (a = a)))) δ
  rw [decide_eq_true rfl]; exact q
end DL

set_option Elab.async false
set_option linter.all false
set_option maxRecDepth 100000
set_option maxHeartbeats 4000000
/-! DLI: reads that leave an owned thing owned; stores into an owned list, append; a star in a display. -/
namespace DL
open PySem PySem.Spec PyProof.Rows L2
/-! ### the view of a value whose top lies in the heap -/
def Top (K : PySem.W.Frag) (B : Bg) (H G : Hp) (v : V) : D → Prop
  | .lst ds => ∃ a xs, v = .ref a ∧ NotB B a ∧ H a = some (.lst xs) ∧ DdA K G xs ds
  | .dK ks ds => ∃ a xs, v = .ref a ∧ NotB B a ∧ ks.length = xs.length ∧ H a = some (.dK (ks.zip xs)) ∧ DdA K G xs ds
  | .dT ks ds => ∃ a xs, v = .ref a ∧ NotB B a ∧ ks.length = xs.length ∧ H a = some (.dT (ks.zip xs)) ∧ DdA K G xs ds
  | d => Dd K G v d
section
variable {K : PySem.W.Frag} {B : Bg} {H0 G0 H H' G G' : Hp} {σ : L2.St} {δ : List Sl}
theorem Rel.notB (R : Rel K B H0 G0 H σ δ G) {a : Addr} {o : HO} (h : G a = some o) : NotB B a := fun c e => by
  have z := (R.bag a c e).gn
  rw [z] at h; cases h
theorem Top.of (R : Rel K B H0 G0 H σ δ G) {v : V} {d : D} (h : Dd K G v d) : Top K B H G v d := by
  cases h with
  | lst h1 h2 => exact ⟨_, _, rfl, R.notB h1, R.sub _ _ h1, h2⟩
  | dK h0 h1 h2 => exact ⟨_, _, rfl, R.notB h1, h0, R.sub _ _ h1, h2⟩
  | dT h0 h1 h2 => exact ⟨_, _, rfl, R.notB h1, h0, R.sub _ _ h1, h2⟩
  | non => exact .non
  | bl b => exact .bl b
  | int i => exact .int i
  | str x => exact .str x
  | tup h1 h2 => exact .tup h1 h2
  | ins h0 h1 h2 => exact .ins h0 h1 h2
theorem Top.step {v : V} {d : D} (h : Top K B H G v d) (s : Same G G') (f : Fra B H H') : Top K B H' G' v d := by
  cases d with
  | lst ds => obtain ⟨a, xs, e, nb, h1, h2⟩ := h; exact ⟨a, xs, e, nb, f _ _ h1 nb, DdA.mono s _ _ h2⟩
  | dK ks ds => obtain ⟨a, xs, e, nb, h0, h1, h2⟩ := h; exact ⟨a, xs, e, nb, h0, f _ _ h1 nb, DdA.mono s _ _ h2⟩
  | dT ks ds => obtain ⟨a, xs, e, nb, h0, h1, h2⟩ := h; exact ⟨a, xs, e, nb, h0, f _ _ h1 nb, DdA.mono s _ _ h2⟩
  | non => exact Dd.mono s _ _ h
  | bl b => exact Dd.mono s _ _ h
  | int i => exact Dd.mono s _ _ h
  | str x => exact Dd.mono s _ _ h
  | tup ds => exact Dd.mono s _ _ h
  | ins C ns ds => exact Dd.mono s _ _ h
/-- a row by its view -/
theorem Top.seq (R : Rel K B H0 G0 H σ δ G) {v : V} {d : D} {xs : List D} (h : Top K B H G v d) (e : seqOf d = some xs) : ∃ a vs, v = .ref a ∧ (SqL K H a vs ∨ SqT K H a vs) ∧ DdA K G vs xs := by
  cases d <;> first | cases e | skip
  · obtain ⟨a, vs, rfl, nb, h1, h2⟩ := h; exact ⟨a, vs, rfl, .inl (SqL.of h1), h2⟩
  · cases h with
    | tup h1 h2 => exact ⟨_, _, rfl, .inr (sameT R.sub h1), h2⟩
end
abbrev TDV := List Sl → (D → List Sl → Prop) → Prop
def MonoV (t : TDV) : Prop := ∀ δ (Q Q' : D → List Sl → Prop), t δ Q → (∀ d δ', Q d δ' → Q' d δ') → t δ Q'
def AftV (K : PySem.W.Frag) (B : Bg) (H0 G0 H : Hp) (σ : L2.St) (G : Hp) (Q : VK) : D → List Sl → Prop := fun d δ' => ∀ v H' G', Rel K B H0 G0 H' σ δ' G' → Same G G' → Fra B H H' → Top K B H' G' v d → Q v H'
def tyVw (K : PySem.W.Frag) (t : TDV) : TE := fun σ H Q => ∃ B H0 G0 δ G, Rel K B H0 G0 H σ δ G ∧ t δ (AftV K B H0 G0 H σ G Q)
structure PDV (X : Cx) (e : Expr) (t : TDV) : Prop where
  pe : PE X e (tyVw X.K t)
  mono : MonoV t
def vwOf (t : TD) : TDV := fun δ Q => t δ fun r δ' => match fz r with
  | some d => Q d δ'
  | none => False
/-- a local name: what it holds, left as it is -/
def vwVar (i : Nat) : TDV := fun δ Q => match δ[i]? with
  | some (.dt d) => Q d δ
  | some (.ol ds) => Q (.lst ds) δ
  | some (.oK ks vs) => Q (.dK ks vs) δ
  | some (.oT ks vs) => Q (.dT ks vs) δ
  | _ => False
section
variable {X : Cx} {e a b : Expr} {pos : Pos} {ta : TD} {va vb : TDV}
theorem pdv_of (h : PD X e ta) : PDV X e (vwOf ta) := by
  refine ⟨PE.weak h.pe fun σ H Q ⟨B, H0, G0, δ, G, R, q⟩ => ?_, fun δ Q Q' q w => h.mono _ _ _ q fun r δ' q => ?_⟩
  · exact ev_data h.mono (kk := fun d δ' => AftV X.K B H0 G0 H σ G Q d δ') R q fun d δ1 v H1 G1 R1 s1 f1 hd hq => hq v H1 G1 R1 s1 f1 (Top.of R1 hd)
  · cases e : fz r with
    | none => rw [e] at q; exact q
    | some d => rw [e] at q; exact w _ _ q
theorem pdv_var {i : Nat} (h : PE X e (tVar i)) : PDV X e (vwVar i) := by
  refine ⟨PE.weak h fun σ H Q ⟨B, H0, G0, δ, G, R, q⟩ => ?_, fun δ Q Q' q w => ?_⟩
  · unfold vwVar at q
    cases e1 : δ[i]? with
    | none => rw [e1] at q; exact q.elim
    | some s =>
      rw [e1] at q
      cases s with
      | no => exact q.elim
      | bag => exact q.elim
      | cnt => exact q.elim
      | xcp _ _ _ _ _ => exact q.elim
      | dt d =>
        rcases R.sl i _ e1 with z | ⟨v, ev, ok⟩
        · cases z
        · exact ⟨v, ev, q v H G R (Same.refl _) (Fra.refl _ _) (Top.of R ok)⟩
      | ol ds =>
        rcases R.sl i _ e1 with z | ⟨v, ev, a, rfl, ga, xs, h1, h2⟩
        · cases z
        · exact ⟨_, ev, q _ H G R (Same.refl _) (Fra.refl _ _) ⟨a, xs, rfl, (R.own i a ⟨ev, _, e1, rfl⟩).2.2, h1, h2⟩⟩
      | oK ks ds =>
        rcases R.sl i _ e1 with z | ⟨v, ev, a, rfl, ga, xs, h0, h1, h2⟩
        · cases z
        · exact ⟨_, ev, q _ H G R (Same.refl _) (Fra.refl _ _) ⟨a, xs, rfl, (R.own i a ⟨ev, _, e1, rfl⟩).2.2, h0, h1, h2⟩⟩
      | oT ks ds =>
        rcases R.sl i _ e1 with z | ⟨v, ev, a, rfl, ga, xs, h0, h1, h2⟩
        · cases z
        · exact ⟨_, ev, q _ H G R (Same.refl _) (Fra.refl _ _) ⟨a, xs, rfl, (R.own i a ⟨ev, _, e1, rfl⟩).2.2, h0, h1, h2⟩⟩
      | oI x0 C ks ds => exact q.elim
      | oL x0 ds => exact q.elim
  · unfold vwVar at q ⊢
    split at q <;> first | exact q.elim | exact w _ _ q
/-! ### operators over views -/
def OpV (K : PySem.W.Frag) (r : R2) (f : FD2) : Prop := ∀ (B : Bg) (H0 G0 H : Hp) (σ : L2.St) (δ : List Sl) (G : Hp) (x y : V) (d e : D) (Q : VK),
  Rel K B H0 G0 H σ δ G → Top K B H G x d → Top K B H G y e → f d e δ (Aft K B H0 G0 H σ G Q) → r x y H Q
def td2V (f : FD2) (ta tb : TDV) : TD := fun δ Q => ta δ fun d δ1 => tb δ1 fun e δ2 => f d e δ2 Q
theorem pd_binV {r : R2} {f : FD2} (ha : PDV X a va) (hb : PDV X b vb) (mf : MonoF2 f) (o : OpV X.K r f) (rule : PE X e (tOp r (tyVw X.K va) (tyVw X.K vb))) : PD X e (td2V f va vb) := by
  refine ⟨PE.weak rule fun σ H Q ⟨B, H0, G0, δ, G, R, q⟩ => ⟨B, H0, G0, δ, G, R, ha.mono _ _ _ q fun d δ1 q1 v H1 G1 R1 s1 f1 t1 => ⟨B, H0, G0, δ1, G1, R1, hb.mono _ _ _ q1 fun e δ2 q2 w H2 G2 R2 s2 f2 t2 => ?_⟩⟩, fun δ Q Q' q w => ha.mono _ _ _ q fun d δ1 q1 => hb.mono _ _ _ q1 fun e δ2 q2 => mf _ _ _ _ _ q2 w⟩
  exact o B H0 G0 H2 σ δ2 G2 v w d e Q R2 (t1.step s2 f2) t2 (mf _ _ _ _ _ q2 (aft_step (s1.trans s2) (f1.trans f2)))
end
section
variable {K : PySem.W.Frag}
theorem opV_ix : OpV K (rIx K) fIx := by
  intro B H0 G0 H σ δ G x y d e Q R hx hy q
  unfold fIx at q
  split at q
  · cases hy
    split at q
    · obtain ⟨z, e1, q⟩ := q
      obtain ⟨a, xs, rfl, nb, h1, h2⟩ := hx
      obtain ⟨v, e2, hv⟩ := h2.atI e1
      exact .inl ⟨_, _, _, v, rfl, rfl, SqL.of h1, e2, aft_here R hv q⟩
    · obtain ⟨z, e1, q⟩ := q
      cases hx with
      | tup h1 h2 =>
        obtain ⟨v, e2, hv⟩ := h2.atI e1
        exact .inr (.inl ⟨_, _, _, v, rfl, rfl, sameT R.sub h1, e2, aft_here R hv q⟩)
    · obtain ⟨q1, c, e1, q2⟩ := q
      cases hx
      exact .inr (.inr ⟨_, _, _, rfl, rfl, q1, e1, aft_here R (.str _) q2⟩)
    · exact q.elim
  · exact q.elim
theorem opV_add : OpV K (rAddD K) fAdd := by
  intro B H0 G0 H σ δ G x y d e Q R hx hy q
  unfold fAdd at q
  split at q
  · cases hx; cases hy
    exact .inl (.inl ⟨_, _, rfl, rfl, aft_here R (.int _) q⟩)
  · cases hx; cases hy
    exact .inl (.inr ⟨_, _, rfl, rfl, q.1, aft_here R (.str _) q.2⟩)
  · obtain ⟨a, xs, rfl, nb, h1, h2⟩ := hx
    obtain ⟨b, ys, rfl, nb', h3, h4⟩ := hy
    have z := q.1
    rw [← h2.len, ← h4.len] at z
    refine .inr (.inl ⟨_, _, _, _, rfl, rfl, h1, h3, z, fun p hp => ?_⟩)
    exact aft_own (s := .ol _) R hp (le_app z) rfl ⟨_, upd_same, h2.append h4⟩ q.2
  · exact opS_add B H0 G0 H σ δ G x y _ _ Q R hx hy q
  · exact q.elim
theorem opV_in {neg : Bool} : OpV K (rIn K neg) (fIn neg) := by
  intro B H0 G0 H σ δ G x y d e Q R hx hy q
  unfold fIn at q
  split at q
  · rename_i v vs e1 e2
    obtain ⟨xs, e3, e4⟩ := Option.bind_eq_some_iff.mp e2
    obtain ⟨a, ws, rfl, hq, hA⟩ := hy.seq R e3
    have hx' : Dd K G x d := by cases d <;> first | exact hx | cases e1
    obtain ⟨z1, z2⟩ := toV_ok hx' e1
    obtain ⟨z3, z4⟩ := toVs_ok hA e4
    subst z1; subst z3
    exact ⟨a, _, rfl, hq, z2, z4, aft_here R (.bl _) q⟩
  · exact q.elim
end
section
variable {X : Cx} {e a b : Expr} {es : List Expr} {pos p p2 : Pos} {ta tb : TD} {va vb : TDV} {u : TDA}
theorem pd_ixV (ha : PDV X a va) (hb : PDV X b vb) (hs : PlainIx b) : PD X (.Subscript a b pos) (td2V fIx va vb) := pd_binV ha hb mono_fIx opV_ix (pe_ix ix_seq ha.pe hb.pe hs)
theorem pd_addV (ha : PDV X a va) (hb : PDV X b vb) : PD X (.BinOp a .Add b pos) (td2V fAdd va vb) := pd_binV ha hb mono_fAdd opV_add (pe_op opR_addD ha.pe hb.pe)
/-! ### len, list, tuple, slices -/
def td1V (g : D → List Sl → QD → Prop) (t : TDV) : TD := fun δ Q => t δ fun d δ' => g d δ' Q
theorem pd_1V {r : List V → Hp → VK → Prop} {g : D → List Sl → QD → Prop} (mg : ∀ d δ (Q Q' : QD), g d δ Q → (∀ r δ', Q r δ' → Q' r δ') → g d δ Q')
    (o : ∀ (B : Bg) (H0 G0 H : Hp) (σ : L2.St) (δ : List Sl) (G : Hp) (v : V) (d : D) (Q : VK), Rel X.K B H0 G0 H σ δ G → Top X.K B H G v d → g d δ (Aft X.K B H0 G0 H σ G Q) → r [v] H Q)
    (h : PDV X a va) (rule : PE X e (tCB r (tCons (tyVw X.K va) tNil))) : PD X e (td1V g va) :=
  ⟨PE.weak rule fun σ H Q ⟨B, H0, G0, δ, G, R, q⟩ => ⟨B, H0, G0, δ, G, R, h.mono _ _ _ q fun d δ1 q1 v H1 G1 R1 s1 f1 t1 => o B H0 G0 H1 σ δ1 G1 v d Q R1 t1 (mg _ _ _ _ q1 (aft_step s1 f1))⟩,
    fun δ Q Q' q w => h.mono _ _ _ q fun d δ1 q1 => mg _ _ _ _ q1 w⟩
theorem pd_lenV (hg : Gl X "len") (hm : X.mg "len" = none) (h : PDV X e va) (he : starEach [e] X.env = (false, eval e X.env) :: starEach [] X.env := by rfl) (hpl : (backTo pos (starEach [] X.env)).any (·.1) = false := by rfl) :
    PD X (.Call (.Name "len" p) [e] [] pos) (td1V gLen va) :=
  pd_1V (fun d δ Q Q' q w => by unfold gLen at q ⊢; split at q <;> first | exact w _ _ q | exact ⟨q.1, w _ _ q.2⟩ | exact q)
    (fun B H0 G0 H σ δ G v d Q R hd q => by
      unfold gLen at q
      split at q
      · obtain ⟨a, xs, rfl, nb, h1, h2⟩ := hd
        exact .inl ⟨_, _, rfl, .inl ⟨_, SqL.of h1, rfl⟩, aft_here R (.int _) (h2.len ▸ q)⟩
      · cases hd with
        | tup h1 h2 => exact .inl ⟨_, _, rfl, .inr ⟨_, sameT R.sub h1, rfl⟩, aft_here R (.int _) (h2.len ▸ q)⟩
      · cases hd
        exact .inl ⟨_, _, rfl, ⟨q.1, rfl⟩, aft_here R (.int _) q.2⟩
      · rename_i ks _
        obtain ⟨a, xs, rfl, nb, h0, h1, h2⟩ := hd
        refine .inr ⟨_, _, rfl, h1, ?_⟩
        have z : (ks.zip xs).length = ks.length := by rw [List.length_zip, ← h0, Nat.min_self]
        rw [z]
        exact aft_here R (.int _) q
      · exact q.elim) h (pe_callB callR_len hg hm PySem.boot_len (pa_cons h.pe pa_nil he) (by decide) (by decide) he hpl)
theorem pd_listV (hg : Gl X "list") (hm : X.mg "list" = none) (h : PDV X e va) (he : starEach [e] X.env = (false, eval e X.env) :: starEach [] X.env := by rfl) (hpl : (backTo pos (starEach [] X.env)).any (·.1) = false := by rfl) :
    PD X (.Call (.Name "list" p) [e] [] pos) (td1V (fun d δ Q => match seqOf d with | some xs => xs.length ≤ sizeLine ∧ Q (.ol xs) δ | none => False) va) :=
  pd_1V (fun d δ Q Q' q w => by split at q <;> first | exact ⟨q.1, w _ _ q.2⟩ | exact q)
    (fun B H0 G0 H σ δ G v d Q R hd q => by
      split at q
      · rename_i xs e1
        obtain ⟨a, ws, rfl, hq, hA⟩ := hd.seq R e1
        have z := q.1
        rw [← hA.len] at z
        exact ⟨a, ws, rfl, hq, fun l hl => aft_own (s := .ol xs) R hl z rfl ⟨_, upd_same, hA⟩ q.2⟩
      · exact q.elim) h (pe_callTy call_list_of hg hm boot_list' (pa_cons h.pe pa_nil he) (by decide) (by decide) he hpl)
theorem pd_tupleV (hg : Gl X "tuple") (hm : X.mg "tuple" = none) (h : PDV X e va) (he : starEach [e] X.env = (false, eval e X.env) :: starEach [] X.env := by rfl) (hpl : (backTo pos (starEach [] X.env)).any (·.1) = false := by rfl) :
    PD X (.Call (.Name "tuple" p) [e] [] pos) (td1V (fun d δ Q => match seqOf d with | some xs => Q (.dt (.tup xs)) δ | none => False) va) :=
  pd_1V (fun d δ Q Q' q w => by split at q <;> first | exact w _ _ q | exact q)
    (fun B H0 G0 H σ δ G v d Q R hd q => by
      split at q
      · rename_i xs e1
        cases d <;> first | cases e1 | skip
        · obtain ⟨a, vs, rfl, nb, h1, h2⟩ := hd
          refine ⟨a, vs, rfl, .inl ⟨SqL.of h1, fun l hl => ?_⟩⟩
          have gl := R.sub.free hl
          have sG : Same G (upd G l (.tup vs)) := fun b x e => by rw [upd_ne (ne_of_none e gl)]; exact e
          exact aft_laid R hl (show vs.length ≤ sizeLine from R.sz _ _ h1) (.tup (.inl (.inl upd_same)) (DdA.mono sG _ _ h2)) q
        · cases hd with
          | tup h1 h2 => exact ⟨_, _, rfl, .inr ⟨sameT R.sub h1, aft_here R (.tup h1 h2) q⟩⟩
      · exact q.elim) h (pe_callTy call_tuple_of hg hm boot_tuple' (pa_cons h.pe pa_nil he) (by decide) (by decide) he hpl)
end
def tdSlV (ta : TDV) (tl th : TDO) : TD := fun δ Q => ta δ fun d δ1 => tl δ1 fun l δ2 => th δ2 fun h δ3 => fSl d l h δ3 Q
section
variable {X : Cx} {e : Expr} {lo hi : Option Expr} {pos p2 : Pos} {va : TDV} {tl th : TDO}
theorem pd_sliceV (ha : PDV X e va) (hl : PDO X lo tl) (hh : PDO X hi th) : PD X (.Subscript e (.Slice lo hi none p2) pos) (tdSlV va tl th) := by
  have rule := pe_slice (pos := pos) (p2 := p2) (sl_list.or (sl_tupA.or sl_str)) ha.pe hl.po hh.po
  refine ⟨PE.weak rule fun σ H Q ⟨B, H0, G0, δ, G, R, q⟩ => ⟨B, H0, G0, δ, G, R, ha.mono _ _ _ q fun d δ1 q1 v H1 G1 R1 s1 f1 t1 => ⟨B, H0, G0, δ1, G1, R1, hl.mono _ _ _ q1 fun l δ2 h2 H2 G2 R2 s2 f2 => ⟨B, H0, G0, δ2, G2, R2, hh.mono _ _ _ h2 fun u δ3 h3 H3 G3 R3 s3 f3 => ?_⟩⟩⟩, fun δ Q Q' q w => ha.mono _ _ _ q fun d δ1 q => hl.mono _ _ _ q fun l δ2 q => hh.mono _ _ _ q fun h δ3 q => mono_fSl q w⟩
  have hd3 := t1.step (s2.trans s3) (f2.trans f3)
  have h3 := mono_fSl h3 (aft_step ((s1.trans s2).trans s3) ((f1.trans f2).trans f3))
  unfold fSl at h3
  split at h3
  · obtain ⟨a, vs, rfl, nb, g1, g2⟩ := hd3
    refine .inl ⟨a, vs, rfl, SqL.of g1, fun p hp => ?_⟩
    exact aft_own (s := .ol _) R3 hp (Nat.le_trans (cutV_length _ _ _) (R3.sz _ _ g1)) rfl ⟨_, upd_same, cut_ok g2 l u⟩ h3
  · cases hd3 with
    | @tup a vs ds g1 g2 =>
      refine .inr (.inl ⟨a, vs, rfl, sameT R3.sub g1, fun z => ?_, fun z p hp => ?_⟩)
      · rw [g2.len] at z
        rw [cutL_all z.1 z.2] at h3
        exact aft_here R3 (.tup g1 g2) h3
      · have gp := R3.sub.free hp
        have sG : Same G3 (upd G3 p (.tup (cutV vs l u))) := fun b x e => by rw [upd_ne (ne_of_none e gp)]; exact e
        refine aft_laid R3 hp ?_ (.tup (.inl (.inl upd_same)) (DdA.mono sG _ _ (cut_ok g2 l u))) h3
        refine Nat.le_trans (cutV_length _ _ _) ?_
        rcases sameT R3.sub g1 with (g | ⟨o, g⟩) | ⟨o, its, n, _, _, _, hz, r⟩
        · exact R3.sz _ _ g
        · exact R3.sz _ _ g
        · rw [r.length, Array.length_toList]; exact hz
  · cases hd3
    exact .inr (.inr ⟨_, rfl, h3.1, aft_here R3 (.str _) h3.2⟩)
  · exact h3.elim
end
/-! ### an owned list is written -/
section
variable {K : PySem.W.Frag} {B : Bg} {H0 G0 H G : Hp} {σ : L2.St} {δ : List Sl}
theorem Rel.write (R : Rel K B H0 G0 H σ δ G) {i : Nat} {a : Addr} {s' : Sl} {o : HO} (oa : Own σ δ i a) (so : SzO o) (io : s'.isOwn = true) (h : OwnAt K (upd H a o) G a s') : Rel K B H0 G0 (upd H a o) σ (δ.set i s') G := by
  obtain ⟨h0, ga, nb⟩ := R.own i a oa
  obtain ⟨ei, s, es, _⟩ := oa
  have hil : i < δ.length := (List.getElem?_eq_some_iff.mp es).1
  have oa : Own σ δ i a := ⟨ei, s, es, ‹_›⟩
  have back : ∀ j b, Own σ (δ.set i s') j b → Own σ δ j b := fun j b ⟨e, t, e2, it⟩ => by
    rcases getSet e2 with ⟨h1, h2, h3⟩ | ⟨h1, h2⟩ | ⟨_, _, h⟩
    · subst h1
      rw [ei] at e; cases e
      exact oa
    · exact ⟨e, t, h2, it⟩
    · exact h.elim
  have keep : ∀ b x, b ≠ a → H b = some x → upd H a o b = some x := fun b x n e => by rw [upd_ne n]; exact e
  refine ⟨fun b x e => keep b x (fun z => by rw [z, ga] at e; cases e) (R.sub _ _ e), R.g0, fun b x e n => keep b x (fun z => by rw [z, h0] at e; cases e) (R.ent b x e n), by rw [List.length_set]; exact R.len, fun j t e => ?_, fun j k b h1 h2 => R.sep j k b (back j b h1) (back k b h2), fun j b hb => R.own j b (back j b hb), fun b c e => ?_, R.gn, R.sz.upd so⟩
  · rcases getSet e with ⟨h1, h2, h3⟩ | ⟨h1, h2⟩ | ⟨_, _, h⟩
    · subst h1; subst h3
      refine .inr ⟨.ref a, ei, ?_⟩
      cases t <;> first | exact ⟨a, rfl, ga, h⟩ | cases io
    · rcases R.sl j t h2 with z | ⟨v, ev, ok⟩
      · exact .inl z
      · refine .inr ⟨v, ev, ?_⟩
        have ne : t.isOwn = true → ∀ b, v = .ref b → b ≠ a := fun it b eb z => h1 (R.sep i j a oa ⟨by rw [ev, eb, z], t, h2, it⟩)
        cases t with
        | no => trivial
        | dt d => exact ok
        | bag => exact ok
        | cnt => exact ok
        | xcp _ _ _ _ _ => first | exact ok | exact xcp_mono (by assumption) ok | exact xcp_mono k.gg ok
        | ol ds => obtain ⟨b, eb, gb, hb⟩ := ok; exact ⟨b, eb, gb, hb.up (fun o' q => keep b o' (ne rfl b eb) q) (Same.refl _)⟩
        | oK ks ds => obtain ⟨b, eb, gb, hb⟩ := ok; exact ⟨b, eb, gb, hb.up (fun o' q => keep b o' (ne rfl b eb) q) (Same.refl _)⟩
        | oT ks ds => obtain ⟨b, eb, gb, hb⟩ := ok; exact ⟨b, eb, gb, hb.up (fun o' q => keep b o' (ne rfl b eb) q) (Same.refl _)⟩
        | oI x0 C ks ds => obtain ⟨b, eb, gb, hb⟩ := ok; exact ⟨b, eb, gb, hb.up (fun o' q => keep b o' (ne rfl b eb) q) (Same.refl _)⟩
        | oL x0 ds => obtain ⟨b, eb, gb, hb⟩ := ok; exact ⟨b, eb, gb, hb.up (fun o' q => keep b o' (ne rfl b eb) q) (Same.refl _)⟩
    · exact h.elim
  · have nba : b ≠ a := fun z => nb c (z ▸ e)
    exact (R.bag b c e).up (upd_ne nba) (Same.refl _) (R.bag b c e).gn
end
/-- x[j] = e, x an owned list -/
def putK (i : Nat) (ti : TD) (nx : List Sl → Prop) (d : D) (δ1 : List Sl) : Prop := match δ1[i]? with
  | some (.ol _) => ti δ1 fun r2 δ2 => match r2, δ2[i]? with
    | .dt (.int k), some (.ol ds) => ∃ j, ixN ds.length k = some j ∧ nx (δ2.set i (.ol (ds.set j d)))
    | _, _ => False
  | _ => False
def tdPut (i : Nat) (ti te : TD) : TDS := fun D δ => te δ fun r δ1 => match fz r with
  | some d => putK i ti D.nx d δ1
  | none => False
/-- x.append(e), x an owned list -/
def tdApp (i : Nat) (te : TD) : TDS := fun D δ => match δ[i]? with
  | some (.ol _) => te δ fun r δ1 => match fz r, δ1[i]? with
    | some d, some (.ol ds) => ds.length < sizeLine ∧ D.nx (δ1.set i (.ol (ds ++ [d])))
    | _, _ => False
  | _ => False
section
variable {K : PySem.W.Frag} {B : Bg} {H0 G0 H G : Hp} {σ : L2.St} {δ : List Sl}
theorem Rel.ol (R : Rel K B H0 G0 H σ δ G) {i : Nat} {ds : List D} (e : δ[i]? = some (.ol ds)) : ∃ a xs, σ[i]? = some (some (.ref a)) ∧ Own σ δ i a ∧ H a = some (.lst xs) ∧ DdA K G xs ds := by
  rcases R.sl i _ e with z | ⟨v, ev, a, rfl, ga, xs, h1, h2⟩
  · cases z
  · exact ⟨a, xs, ev, ⟨ev, _, e, rfl⟩, h1, h2⟩
end
section
variable {X : Cx} {o e j : Expr} {pos p1 p2 : Pos} {te ti : TD} {i : Nat}
theorem pds_put (ho : PE X o (tVar i)) (hj : PD X j ti) (he : PD X e te) (hs : swapsWithSole [.Subscript o j p1] e pos.line X.env = pure false := by rfl) (hw : swappedStores [.Subscript o j p1] e X.env = pure none := by rfl)
    (h1 : (assignEach [.Subscript o j p1] X.env).map (·.2) = [assign (.Subscript o j p1) X.env] := by rfl)
    (ha : ∀ v, assign (.Subscript o j p1) X.env v = (do
      let ov ← holding [v] (eval o X.env)
      let iv ← holding [v, ov] (eval j X.env)
      standAt p1
      holding [v, ov, iv] (setItem ov iv v)
      release [v, ov, iv] []) := by intro _; rfl) : PDS X (.Assign [.Subscript o j p1] e pos) (tdPut i ti te) := by
  refine ⟨PS.weak (ps_asg he.pe (pg_sub ho hj.pe set_list ha) hs hw h1) fun D σ H ⟨B, H0, G0, δ, G, R, q⟩ => ?_, fun D D' δ w q => he.mono _ _ _ q fun r δ1 q => ?_⟩
  · refine ev_data he.mono (kk := putK i ti (endsOf X B H0 G0 D).nx) R q fun d δ1 v H1 G1 R1 s1 f1 hd hq => ?_
    unfold putK at hq
    split at hq
    · rename_i ds0 e1
      obtain ⟨a, xs, ev, oa, ha, hA⟩ := R1.ol e1
      refine ⟨_, ev, B, H0, G0, δ1, G1, R1, hj.mono _ _ _ hq fun r2 δ2 q2 y H2 G2 R2 s2 f2 ok => ?_⟩
      split at q2
      · rename_i k ds e2
        obtain ⟨j, hj, qn⟩ := q2
        cases ok.1
        obtain ⟨a2, xs2, ev2, oa2, ha2, hA2⟩ := R2.ol e2
        rw [ev] at ev2; cases ev2
        refine ⟨a, xs2, k, j, rfl, rfl, ha2, by rw [hA2.len]; exact hj, ?_⟩
        refine qn σ _ G2 (R2.write oa2 (show (xs2.set j v).length ≤ sizeLine by rw [List.length_set]; exact R2.sz _ _ ha2) rfl ⟨_, upd_same, ?_⟩)
        exact hA2.set j (Dd.mono s2 _ _ hd)
      · exact q2.elim
    · exact hq.elim
  · cases e1 : fz r with
    | none => rw [e1] at q; exact q
    | some d =>
      rw [e1] at q
      dsimp only at q ⊢
      unfold putK at q ⊢
      split at q
      · refine hj.mono _ _ _ q fun r2 δ2 q2 => ?_
        split at q2
        · obtain ⟨j, hj, qn⟩ := q2; exact ⟨j, hj, w.nx _ qn⟩
        · exact q2
      · exact q
end
/-! ### a star in a display -/
def tStar (K : PySem.W.Frag) (te : TE) (tr : TA) : TA := fun σ H Q => te σ H fun x H1 => ∃ a ys, x = .ref a ∧ (SqL K H1 a ys ∨ SqT K H1 a ys) ∧ tr σ H1 fun xs H2 => Q (ys ++ xs) H2
theorem pa_star {X : Cx} {e : Expr} {es : List Expr} {te : TE} {t : TA} {p : Pos} (he : PE X e te) (hr : PA X es t) (hs : starEach (.Starred e p :: es) X.env = (true, eval e X.env) :: starEach es X.env := by rfl) : PA X (.Starred e p :: es) (tStar X.K te t) := by
  refine ⟨fun pos pins s σ H Q I h => ?_⟩
  refine PySem.W.items_star (thn (he.run pins s σ H _ I h) fun v s1 ⟨x, H1, I1, r1, a, ys, ex, sq, q1⟩ => ?_) hs
  subst ex
  cases r1
  have fin : ∀ (its : List Value), Vals ys its → ∀ h', (∀ b o', s1.heap.get? b = some o' → h'.get? b = some o') →
      wpAny (model X.prog X.w) X.A (spliced (backTo pos (starEach es X.env))) (fun vs s₃ => AP X pins σ Q (its ++ vs) s₃) X.xe { s1 with heap := h' } := fun its rv h' hk =>
    thn (hr.run pos pins _ σ H1 _ (I1.kept (t' := s1.toks) hk) q1) fun us s2 ⟨xs, H2, I2, r2, q2⟩ => ⟨ys ++ xs, H2, I2, rv.append r2, q2⟩
  rcases sq with sq | sq
  · obtain ⟨its, rv, ⟨o, n, ho, hc, _, hd⟩, hz⟩ := I1.list sq
    unfold PySem.W.StarOf notIterableAtAll
    refine wpAny_bind (wpAny_specialOf ⟨o, ho, hc⟩ PySem.F.slot_list_iter.lookup (wpAny_pure ⟨rfl, ?_⟩))
    exact wpAny_collect_seq a (.inl rfl) ho hc hd (fun h' hk => by simpa using fin its rv h' hk) (by rw [List.size_toArray, ← rv.length]; exact hz)
  · obtain ⟨its, rv, ⟨o, ho, hc, n, hd⟩, hz⟩ := I1.tuple sq
    unfold PySem.W.StarOf notIterableAtAll
    refine wpAny_bind (wpAny_specialOf ⟨o, ho, hc⟩ PySem.F.slot_tuple_iter.lookup (wpAny_pure ⟨rfl, ?_⟩))
    exact wpAny_collect_seq a (.inr rfl) ho hc hd (fun h' hk => by simpa using fin its rv h' hk) (by rw [List.size_toArray, ← rv.length]; exact hz)
def tdStar (tv : TDV) (tr : TDA) : TDA := fun δ Q => tv δ fun d δ1 => match seqOf d with
  | none => False
  | some ys => tr δ1 fun rs δ2 => Q (ys.map .dt ++ rs) δ2
theorem argsOk_dts {K : PySem.W.Frag} {B : Bg} {G : Hp} : ∀ {vs : List V} {ds : List D} {ws : List V} {rs : List Sl}, DdA K G vs ds → ArgsOk K B G ws rs → ArgsOk K B G (vs ++ ws) (ds.map .dt ++ rs)
  | _, [], _, _, h, k => by cases h; exact k
  | _, d :: ds, _, _, h, k => by cases h with | cons h1 h2 => exact ⟨h1, argsOk_dts h2 k⟩
theorem pda_star {X : Cx} {e : Expr} {es : List Expr} {tv : TDV} {u : TDA} {p : Pos} (h : PDV X e tv) (k : PDA X es u) (hs : starEach (.Starred e p :: es) X.env = (true, eval e X.env) :: starEach es X.env := by rfl) : PDA X (.Starred e p :: es) (tdStar tv u) := by
  refine ⟨PA.weak (pa_star h.pe k.pa hs) fun σ H Q ⟨B, H0, G0, δ, G, R, q⟩ => ⟨B, H0, G0, δ, G, R, h.mono _ _ _ q fun d δ1 q v H1 G1 R1 s1 f1 t1 => ?_⟩, fun δ Q Q' q w => h.mono _ _ _ q fun d δ1 q => ?_⟩
  · cases e1 : seqOf d with
    | none => rw [e1] at q; exact q.elim
    | some ys =>
      rw [e1] at q
      obtain ⟨a, vs, rfl, sq, hA⟩ := t1.seq R1 e1
      exact ⟨a, vs, rfl, sq, B, H0, G0, δ1, G1, R1, k.mono _ _ _ q fun rs δ2 q2 ws H2 G2 R2 s2 f2 oks => q2 _ H2 G2 R2 (s1.trans s2) (f1.trans f2) (argsOk_dts (DdA.mono s2 _ _ hA) oks)⟩
  · cases e1 : seqOf d with
    | none => rw [e1] at q; exact q
    | some ys => rw [e1] at q; exact k.mono _ _ _ q fun rs δ2 q2 => w _ _ q2
theorem datas_dts : ∀ (ds : List D) (rs : List Sl), datas (ds.map .dt ++ rs) = (datas rs).map (ds ++ ·)
  | [], rs => by cases h : datas rs <;> simp [h]
  | d :: ds, rs => by
    show (match datas (ds.map .dt ++ rs) with | some es => some (d :: es) | none => none) = _
    rw [datas_dts ds rs]
    cases datas rs <;> rfl
section
variable {X : Cx} {o e : Expr} {pos p1 p2 : Pos} {te : TD} {i : Nat}
theorem pds_app (ho : PE X o (tVar i)) (he : PD X e te) (hbase : attributeBase o "append" X.env (eval o X.env) = eval o X.env := by rfl)
    (hfew : ((backTo p2 (starEach [e] X.env)).all (fun x => !x.1) && (backToKw p2 (keywordEach [] X.env)).all (fun x => x.1.isSome)
      && decide ([e].length + ([] : List Keyword).length + (if ([] : List Keyword).isEmpty then 0 else 1) < 30)) = true := by rfl)
    (hline : (p1.endLine == p2.line) = true := by rfl) (hst : starEach [e] X.env = (false, eval e X.env) :: starEach [] X.env := by rfl) (hplain : (backTo p2 (starEach [] X.env)).any (·.1) = false := by rfl)
    (hs : swapsWith (.Call (.Attribute o "append" p1) [e] [] p2) none pos.line X.env = pure false := by rfl) : PDS X (.Expr (.Call (.Attribute o "append" p1) [e] [] p2) pos) (tdApp i te) := by
  refine ⟨PS.weak (ps_expr (pe_bm PySem.F.plainAttrs_list PySem.F.slot_list_append PySem.F.type_list_append mt_append ho (pa_cons he.pe pa_nil hst) hbase hfew hline hst hplain) hs) fun D σ H ⟨B, H0, G0, δ, G, R, q⟩ => ?_, fun D D' δ w q => ?_⟩
  · unfold tdApp at q
    split at q
    · rename_i ds0 e1
      obtain ⟨a, xs, ev, oa, ha, hA⟩ := R.ol e1
      refine ⟨_, ev, .inl ⟨rfl, _, SqL.of ha⟩, B, H0, G0, δ, G, R, he.mono _ _ _ q fun r δ1 q2 y H2 G2 R2 s2 f2 ok => ?_⟩
      split at q2
      · rename_i d ds er e2
        obtain ⟨a2, xs2, ev2, oa2, ha2, hA2⟩ := R2.ol e2
        rw [ev] at ev2; cases ev2
        obtain ⟨G3, R3, s3, hd⟩ := freeze R2 ok er
        obtain ⟨hz, qn⟩ := q2
        rw [← hA2.len] at hz
        refine ⟨a, xs2, y, rfl, rfl, ha2, hz, ?_⟩
        refine qn σ _ G3 (R3.write oa2 (show (xs2 ++ [y]).length ≤ sizeLine by rw [List.length_append]; exact hz) rfl ⟨_, upd_same, ?_⟩)
        exact (DdA.mono s3 _ _ hA2).append (.one hd)
      · exact q2.elim
    · exact q.elim
  · unfold tdApp at q ⊢
    split at q
    · refine he.mono _ _ _ q fun r δ1 q2 => ?_
      split at q2
      · exact ⟨q2.1, w.nx _ q2.2⟩
      · exact q2
    · exact q
end
end DL

set_option Elab.async false
set_option linter.all false
set_option maxRecDepth 100000
set_option maxHeartbeats 4000000
/-! DLJ: bounds of data that is built up: base data (no list, no dict), good data (either no list or no dict). -/
namespace DL
open PySem PySem.Spec PyProof.Rows L2
structure Bs (c h : Nat) (d : D) : Prop where
  plain : plainD d = true
  small : smallD d
  cost : costD d ≤ c
  depth : (py d).depth ≤ h
  dict : (py d).hasDict = false
  nol : noL d = true
  lay : (py d).canLay0 = true
structure Gd (c h : Nat) (d : D) : Prop where
  plain : plainD d = true
  small : smallD d
  cost : costD d ≤ c
  depth : (py d).depth ≤ h
  dl : (py d).hasDict = false ∨ noL d = true
section
variable {c h c' h' : Nat} {d : D} {xs : List D}
theorem Bs.gd (b : Bs c h d) : Gd c h d := ⟨b.plain, b.small, b.cost, b.depth, .inl b.dict⟩
theorem Bs.mono (b : Bs c h d) (h1 : c ≤ c') (h2 : h ≤ h') : Bs c' h' d := ⟨b.plain, b.small, Nat.le_trans b.cost h1, Nat.le_trans b.depth h2, b.dict, b.nol, b.lay⟩
theorem Gd.mono (b : Gd c h d) (h1 : c ≤ c') (h2 : h ≤ h') : Gd c' h' d := ⟨b.plain, b.small, Nat.le_trans b.cost h1, Nat.le_trans b.depth h2, b.dl⟩
theorem Gd.show (b : Gd c h d) (h1 : c ≤ sizeLine) (h2 : h ≤ 100) : ShowOk d := showOk_of b.plain b.small (Nat.le_trans b.cost h1) (Nat.le_trans b.depth h2) b.dl
theorem Bs.show (b : Bs c h d) (h1 : c ≤ sizeLine) (h2 : h ≤ 100) : ShowOk d := b.gd.show h1 h2
theorem Bs.shaped (b : Bs c h d) (h2 : h ≤ 64) : SeqAt.shaped (py d) = true := by
  unfold SeqAt.shaped
  rw [b.lay, decide_eq_true (Nat.le_trans b.depth h2)]; rfl
theorem bs_int {i : Int} (hi : i.natAbs < 10 ^ 78) : Bs 80 0 (.int i) := ⟨rfl, hi, Nat.le_refl _, Nat.le_refl _, rfl, rfl, rfl⟩
theorem bs_all : ∀ {xs : List D}, (∀ x ∈ xs, Bs c h x) → plainA xs = true ∧ smallA xs ∧ costA xs ≤ (c + 2) * xs.length ∧ PyData.depthAll (pyA xs) ≤ h ∧ PyData.hasDictAll (pyA xs) = false ∧ noLA xs = true ∧ PyData.canLayAll0 (pyA xs) = true
  | [], _ => ⟨rfl, trivial, Nat.le_refl _, Nat.zero_le _, rfl, rfl, rfl⟩
  | x :: xs, hx => by
    obtain ⟨a1, a2, a3, a4, a5, a6, a7⟩ := hx x List.mem_cons_self
    obtain ⟨b1, b2, b3, b4, b5, b6, b7⟩ := bs_all fun y hy => hx y (List.mem_cons_of_mem _ hy)
    refine ⟨?_, ⟨a2, b2⟩, ?_, ?_, ?_, ?_, ?_⟩
    · show (plainD x && plainA xs) = true; rw [a1, b1]; rfl
    · show costD x + 2 + costA xs ≤ (c + 2) * (xs.length + 1)
      rw [Nat.mul_succ]; omega
    · show max (py x).depth (PyData.depthAll (pyA xs)) ≤ h; omega
    · show ((py x).hasDict || PyData.hasDictAll (pyA xs)) = false; rw [a5, b5]; rfl
    · show (noL x && noLA xs) = true; rw [a6, b6]; rfl
    · show ((py x).canLay0 && PyData.canLayAll0 (pyA xs)) = true; rw [a7, b7]; rfl
theorem bs_tup (hx : ∀ x ∈ xs, Bs c h x) : Bs ((c + 2) * xs.length + 3) (h + 1) (.tup xs) := by
  obtain ⟨b1, b2, b3, b4, b5, b6, b7⟩ := bs_all hx
  exact ⟨b1, b2, Nat.add_le_add_right b3 3, (Nat.add_le_add_right b4 1 : PyData.depthAll (pyA xs) + 1 ≤ h + 1), b5, b6, b7⟩
theorem gd_lst (hx : ∀ x ∈ xs, Bs c h x) : Gd ((c + 2) * xs.length + 3) (h + 1) (.lst xs) := by
  obtain ⟨b1, b2, b3, b4, b5, b6, b7⟩ := bs_all hx
  exact ⟨b1, b2, Nat.add_le_add_right b3 3, (Nat.add_le_add_right b4 1 : PyData.depthAll (pyA xs) + 1 ≤ h + 1), .inl b5⟩
theorem lay_lst (hx : ∀ x ∈ xs, Bs c h x) (hh : h + 1 ≤ 64) : SeqAt.shaped (py (.lst xs)) = true := by
  obtain ⟨b1, b2, b3, b4, b5, b6, b7⟩ := bs_all hx
  unfold SeqAt.shaped
  show (PyData.canLayAll0 (pyA xs) && decide (PyData.depthAll (pyA xs) + 1 ≤ 64)) = true
  rw [b7, decide_eq_true (by omega)]; rfl
/-- one good thing among base ones -/
theorem gd_set {r : D} (hr : Gd c h r) : ∀ {xs : List D} {j : Nat}, (∀ x ∈ xs, Bs c h x) → plainA (xs.set j r) = true ∧ smallA (xs.set j r) ∧ costA (xs.set j r) ≤ (c + 2) * xs.length ∧ PyData.depthAll (pyA (xs.set j r)) ≤ h ∧ (PyData.hasDictAll (pyA (xs.set j r)) = false ∨ noLA (xs.set j r) = true)
  | [], _, _ => ⟨rfl, trivial, Nat.le_refl _, Nat.zero_le _, .inl rfl⟩
  | x :: xs, 0, hx => by
    obtain ⟨b1, b2, b3, b4, b5, b6, b7⟩ := bs_all fun y hy => hx y (List.mem_cons_of_mem _ hy)
    refine ⟨?_, ⟨hr.small, b2⟩, ?_, ?_, ?_⟩
    · show (plainD r && plainA xs) = true; rw [hr.plain, b1]; rfl
    · show costD r + 2 + costA xs ≤ (c + 2) * (xs.length + 1)
      have := hr.cost
      rw [Nat.mul_succ]; omega
    · show max (py r).depth (PyData.depthAll (pyA xs)) ≤ h
      have := hr.depth
      omega
    · rcases hr.dl with z | z
      · left; show ((py r).hasDict || PyData.hasDictAll (pyA xs)) = false; rw [z, b5]; rfl
      · right; show (noL r && noLA xs) = true; rw [z, b6]; rfl
  | x :: xs, j + 1, hx => by
    obtain ⟨a1, a2, a3, a4, a5, a6, a7⟩ := hx x List.mem_cons_self
    obtain ⟨b1, b2, b3, b4, b5⟩ := gd_set hr (j := j) fun y hy => hx y (List.mem_cons_of_mem _ hy)
    refine ⟨?_, ⟨a2, b2⟩, ?_, ?_, ?_⟩
    · show (plainD x && plainA (xs.set j r)) = true; rw [a1, b1]; rfl
    · show costD x + 2 + costA (xs.set j r) ≤ (c + 2) * (xs.length + 1)
      rw [Nat.mul_succ]; omega
    · show max (py x).depth (PyData.depthAll (pyA (xs.set j r))) ≤ h; omega
    · rcases b5 with z | z
      · left; show ((py x).hasDict || PyData.hasDictAll (pyA (xs.set j r))) = false; rw [a5, z]; rfl
      · right; show (noL x && noLA (xs.set j r)) = true; rw [a6, z]; rfl
theorem gd_setT {r : D} {j : Nat} (hr : Gd c h r) (hx : ∀ x ∈ xs, Bs c h x) : Gd ((c + 2) * xs.length + 3) (h + 1) (.tup (xs.set j r)) := by
  obtain ⟨b1, b2, b3, b4, b5⟩ := gd_set hr (j := j) hx
  exact ⟨b1, b2, Nat.add_le_add_right b3 3, (Nat.add_le_add_right b4 1 : PyData.depthAll (pyA (xs.set j r)) + 1 ≤ h + 1), b5⟩
end
def bsB (c h : Nat) (d : D) : Bool := plainD d && (smallB d && (decide (costD d ≤ c) && (decide ((py d).depth ≤ h) && (!(py d).hasDict && (noL d && (py d).canLay0)))))
theorem bsB_ok {c h : Nat} {d : D} (e : bsB c h d = true) : Bs c h d := by
  unfold bsB at e
  simp only [Bool.and_eq_true, Bool.not_eq_true', decide_eq_true_eq] at e
  obtain ⟨h1, h2, h3, h4, h5, h6, h7⟩ := e
  exact ⟨h1, smallB_ok d h2, h3, h4, h5, h6, h7⟩
def gdB (c h : Nat) (d : D) : Bool := plainD d && (smallB d && (decide (costD d ≤ c) && (decide ((py d).depth ≤ h) && (!(py d).hasDict || noL d))))
theorem gdB_ok {c h : Nat} {d : D} (e : gdB c h d = true) : Gd c h d := by
  unfold gdB at e
  simp only [Bool.and_eq_true, Bool.or_eq_true, Bool.not_eq_true', decide_eq_true_eq] at e
  obtain ⟨h1, h2, h3, h4, h5⟩ := e
  exact ⟨h1, smallB_ok d h2, h3, h4, h5⟩
theorem bsB_all {c h : Nat} {xs : List D} (e : xs.all (bsB c h) = true) : ∀ x ∈ xs, Bs c h x := fun x hx => bsB_ok (List.all_eq_true.mp e x hx)
theorem gdB_all {c h : Nat} {xs : List D} (e : xs.all (gdB c h) = true) : ∀ x ∈ xs, Gd c h x := fun x hx => gdB_ok (List.all_eq_true.mp e x hx)
/-! ### atoms of tests, by yes and no -/
theorem fLe_yes {n m : Int} {δ : List Sl} {Q : QD} (h : n ≤ m) (q : Q (.dt (.bl true)) δ) : fLe (.int n) (.int m) δ Q := by
  show Q (.dt (.bl (decide (n ≤ m)))) δ
  rw [decide_eq_true h]; exact q
theorem fLe_no {n m : Int} {δ : List Sl} {Q : QD} (h : ¬ n ≤ m) (q : Q (.dt (.bl false)) δ) : fLe (.int n) (.int m) δ Q := by
  show Q (.dt (.bl (decide (n ≤ m)))) δ
  rw [decide_eq_false h]; exact q
theorem if_yes {a : Bool} {A B : Prop} (e : a = true) (h : A) : if a = true then A else B := by rw [if_pos e]; exact h
theorem if_no {a : Bool} {A B : Prop} (e : a = false) (h : B) : if a = true then A else B := by rw [if_neg (by rw [e]; exact Bool.false_ne_true)]; exact h
theorem or_in {a b : Bool} {Q : Bool → Prop} {R : Prop} (q : Q (a || b)) (h : Q b → R) : if a = true then Q true else R := by
  cases a with
  | true => exact q
  | false => exact h q
theorem and_in {a b : Bool} {Q : Bool → Prop} {R : Prop} (q : Q (a && b)) (h : Q b → R) : if a = true then R else Q false := by
  cases a with
  | true => exact h q
  | false => exact q
abbrev qb (Q : Sl → Prop) : Bool → Prop := fun b => Q (.dt (.bl b))
/-- both ways of a test -/
theorem if_both {a : Bool} {A B : Prop} (h1 : a = true → A) (h2 : a = false → B) : if a = true then A else B := by
  cases a with
  | true => exact h1 rfl
  | false => exact h2 rfl
theorem plain_ins {d : D} (h : plainD d = true) : d.isIns = false := by cases d <;> first | rfl | cases h
theorem plain_cons {x : D} {xs : List D} (h : plainA (x :: xs) = true) : plainD x = true ∧ plainA xs = true := by
  have h' : (plainD x && plainA xs) = true := h
  rw [Bool.and_eq_true] at h'
  exact h'
/-! ### a, b = x, y: the second may be owned -/
def tdPar2 (i j : Nat) (ta tb : TD) : TDS := fun D δ => ta δ fun r δ1 => match az r with
  | none => False
  | some r' => tb δ1 fun s δ2 => D.nx ((δ2.set i r').set j s)
theorem az_own {r r' : Sl} (h : az r = some r') : r'.isOwn = false := by
  cases r <;> cases h <;> rfl
section
variable {X : Cx} {a b : Expr} {pos : Pos} {ta tb : TD}
theorem pds_par2 {i j : Nat} {x y : Str} {px py pt : Pos} {kt k2 pt2} (hc : X.calm = true) (hN : X.N.Nodup) (hi : X.N[i]? = some x) (hj : X.N[j]? = some y) (hij : i ≠ j)
    (hx : X.env.scope.names.lookup x = some .local) (hy : X.env.scope.names.lookup y = some .local) (ha : PD X a ta) (hb : PD X b tb)
    (hw : swappedStores [.Tuple [.Name x px, .Name y py] kt pt] (.Tuple [a, b] k2 pt2) X.env = pure (some [x, y]))
    (hs : swapsWithSole [.Tuple [.Name x px, .Name y py] kt pt] (.Tuple [a, b] k2 pt2) pos.line X.env = pure false := by rfl)
    (h1 : starEach [a, b] X.env = (false, eval a X.env) :: starEach [b] X.env := by rfl) (h2 : starEach [b] X.env = (false, eval b X.env) :: starEach [] X.env := by rfl) :
    PDS X (.Assign [.Tuple [.Name x px, .Name y py] kt pt] (.Tuple [a, b] k2 pt2) pos) (tdPar2 i j ta tb) := by
  refine ⟨PS.weak (ps_par hc hN hi hj hij hx hy (pa_cons ha.pe (pa_cons hb.pe pa_nil h2) h1) hw hs) fun D σ H ⟨B, H0, G0, δ, G, R, q⟩ => ⟨B, H0, G0, δ, G, R, ha.mono _ _ _ q fun r δ1 q v H1 G1 R1 s1 f1 ok => ?_⟩, fun D D' δ w q => ha.mono _ _ _ q fun r δ1 q => ?_⟩
  · cases ea : az r with
    | none => rw [ea] at q; exact q.elim
    | some r' =>
      rw [ea] at q
      obtain ⟨G2, R2, s2, hA⟩ := freezeA R1 ok ea
      refine ⟨B, H0, G0, δ1, G2, R2, hb.mono _ _ _ q fun s δ2 q w H3 G3 R3 s3 f3 ok3 => ⟨v, w, rfl, q _ _ G3 ?_⟩⟩
      refine (R3.assign (resOk_arg (hA.mono s3)) i).assign ⟨ok3.1, ok3.2.1, fun io a e => ?_⟩ j
      obtain ⟨z1, z2, z3⟩ := ok3.2.2 io a e
      refine ⟨z1, z2, fun k ⟨e1, t, e2, it⟩ => ?_⟩
      rcases getSet e2 with ⟨y1, y2, y3⟩ | ⟨y1, y2⟩ | ⟨_, _, y⟩
      · rw [y3, az_own ea] at it; cases it
      · rw [List.getElem?_set_ne y1] at e1
        exact z3 k ⟨e1, t, y2, it⟩
      · exact y.elim
  · cases ea : az r with
    | none => rw [ea] at q; exact q
    | some r' => rw [ea] at q; exact hb.mono _ _ _ q fun s δ2 q => w.nx _ q
end
theorem cutL_mem {α : Type} {xs : List α} {lo hi : Option Int} {x : α} (h : x ∈ cutL xs lo hi) : x ∈ xs := List.mem_of_mem_drop (List.mem_of_mem_take h)
theorem cutL_len {α : Type} {xs : List α} {lo hi : Option Int} : (cutL xs lo hi).length ≤ xs.length := by
  unfold cutL
  rw [List.length_take, List.length_drop]
  omega
theorem fEqI {i j : Int} {δ : List Sl} {Q : QD} (q : Q (.dt (.bl (i == j))) δ) : fEq (.int i) (.int j) δ Q := ⟨rfl, rfl, q⟩
theorem fNeI {i j : Int} {δ : List Sl} {Q : QD} (q : Q (.dt (.bl (!(i == j)))) δ) : fNe (.int i) (.int j) δ Q := ⟨rfl, rfl, q⟩
/-! ### a, b = e -/
def tdUnp (te : TD) (g : TDG) : TDS := fun D δ => te δ fun r δ1 => match fz r with
  | some d => g d δ1 D.nx
  | none => False
theorem pds_unpack {X : Cx} {tg e : Expr} {pos : Pos} {te : TD} {vs : List Nat} {g : TDG} (he : PD X e te) (hg : PDG X tg vs g) (hs : swapsWithSole [tg] e pos.line X.env = pure false := by rfl) (hw : swappedStores [tg] e X.env = pure none := by rfl)
    (h1 : (assignEach [tg] X.env).map (·.2) = [assign tg X.env] := by rfl) : PDS X (.Assign [tg] e pos) (tdUnp te g) := by
  refine ⟨PS.weak (ps_asg he.pe hg.pg hs hw h1) fun D σ H ⟨B, H0, G0, δ, G, R, q⟩ => ?_, fun D D' δ w q => he.mono _ _ _ q fun r δ1 q => ?_⟩
  · refine ev_data he.mono (kk := fun d δ1 => g d δ1 (endsOf X B H0 G0 D).nx) R q fun d δ1 v H1 G1 R1 s1 f1 hd hq => ?_
    exact ⟨B, H0, G0, δ1, G1, d, R1, hd, hg.mono _ _ _ _ hq fun δ' q σ' _ R' => q σ' H1 G1 R'⟩
  · cases e1 : fz r with
    | none => rw [e1] at q; exact q
    | some d => rw [e1] at q; exact hg.mono _ _ _ _ q fun δ' q => w.nx _ q
/-! ### a list == [] -/
def rEqL : R2 := fun x y H Q => ∃ a b xs ys, x = .ref a ∧ y = .ref b ∧ H a = some (.lst xs) ∧ H b = some (.lst ys) ∧ xs.length ≠ ys.length ∧ Q (.bl false) H
theorem op_eqL {X : Cx} (hu : X.A.units < cLine) : OpR X (compareOp .Eq) rEqL := by
  intro pins s σ H x y v u Q I rx ry h
  obtain ⟨a, b, xs, ys, rfl, rfl, ha, hb, hn, q⟩ := h
  cases rx; cases ry
  obtain ⟨its, n, r1, e1, _⟩ := I.lst ha
  obtain ⟨its2, n2, r2, e2, _⟩ := I.lst hb
  refine PySem.P.eq_list_lengths e1 e2 ?_ hu ⟨.bl false, H, I, rfl, q⟩
  rw [List.size_toArray, List.size_toArray, ← r1.length, ← r2.length]
  exact bne_iff_ne.mpr hn
def fEqE : FD2 := fun d e δ Q => match d, e with
  | .lst xs, .lst [] => Q (.dt (.bl xs.isEmpty)) δ
  | _, _ => False
theorem mono_fEqE : MonoF2 fEqE := fun d e δ Q Q' q w => by
  unfold fEqE at q ⊢
  split at q <;> first | exact w _ _ q | exact q
theorem opS_eqE {K : PySem.W.Frag} : OpS K (fun x y H Q => rEqL x y H Q ∨ rEqD K x y H Q) fEqE := by
  intro B H0 G0 H σ δ G x y d e Q R hx hy q
  unfold fEqE at q
  split at q
  · rename_i xs
    cases xs with
    | nil => exact .inr ⟨_, _, Dd.dp R.sub _ x rfl hx, Dd.dp R.sub _ y rfl hy, rfl, rfl, aft_here R (.bl _) q⟩
    | cons z zs =>
      cases hx with
      | @lst a vs _ h1 h2 =>
        cases hy with
        | @lst b ws _ h3 h4 =>
          refine .inl ⟨a, b, vs, ws, rfl, rfl, R.sub _ _ h1, R.sub _ _ h3, ?_, aft_here R (.bl _) q⟩
          rw [h2.len, h4.len]
          simp
  · exact q.elim
section
variable {X : Cx} {a b : Expr} {pos : Pos} {ta tb : TD}
theorem pd_eqE (hu : X.A.units + 64 < cLine) (ha : PD X a ta) (hb : PD X b tb) (hm : behindInMarks .Eq b = false := nomark _) : PD X (.Compare a [.Eq] [b] pos) (td2 fEqE ta tb) := pd_cmp (opR_or (op_eqL (by omega)) (op_eqD hu)) mono_fEqE opS_eqE ha hb hm
theorem pdt_eqE (hu : X.A.units + 64 < cLine) (ha : PD X a ta) (hb : PD X b tb) (hm : behindInMarks .Eq b = false := nomark _) : PDT X (.Compare a [.Eq] [b] pos) (tdBool (td2 fEqE ta tb)) := pdt_of (opR_or (op_eqL (by omega)) (op_eqD hu)) mono_fEqE opS_eqE ha hb hm
end
end DL

set_option Elab.async false
set_option linter.all false
set_option maxRecDepth 100000
set_option maxHeartbeats 4000000
/-! DLK: a counter: a list of one number that is passed on and counted down. -/
namespace DL
open PySem PySem.Spec PyProof.Rows L2
section
variable {K : PySem.W.Frag} {B : Bg} {H0 G0 H G : Hp} {σ : L2.St} {δ : List Sl}
/-- the counter changes -/
theorem Rel.count (R : Rel K B H0 G0 H σ δ G) {b : Addr} (hB : (b, Cell.cnt) ∈ B) (n : Int) : Rel K B H0 G0 (upd H b (.lst [.int n])) σ δ G := by
  obtain ⟨k, hb, gb⟩ := R.bag b _ hB
  have keep : ∀ a x, a ≠ b → H a = some x → upd H b (.lst [.int n]) a = some x := fun a x ne e => by rw [upd_ne ne]; exact e
  have neB : ∀ a, NotB B a → a ≠ b := fun a nb e => nb _ (e ▸ hB)
  refine ⟨fun a x e => keep a x (ne_of_none e gb) (R.sub _ _ e), R.g0, fun a x e nb => keep a x (neB a nb) (R.ent a x e nb), R.len, fun i s e => ?_, R.sep, R.own, fun a c e => ?_, R.gn, R.sz.upd (show (1 : Nat) ≤ sizeLine by decide)⟩
  · rcases R.sl i s e with z | ⟨v, ev, ok⟩
    · exact .inl z
    · refine .inr ⟨v, ev, ?_⟩
      cases s with
      | no => trivial
      | dt d => exact ok
      | bag => exact ok
      | cnt => exact ok
      | xcp _ _ _ _ _ => first | exact ok | exact xcp_mono (by assumption) ok | exact xcp_mono k.gg ok
      | ol ds => obtain ⟨a, ea, ga, h⟩ := ok; exact ⟨a, ea, ga, h.up (fun o q => keep a o (neB a (R.own i a ⟨ea ▸ ev, _, e, rfl⟩).2.2) q) (Same.refl _)⟩
      | oK ks ds => obtain ⟨a, ea, ga, h⟩ := ok; exact ⟨a, ea, ga, h.up (fun o q => keep a o (neB a (R.own i a ⟨ea ▸ ev, _, e, rfl⟩).2.2) q) (Same.refl _)⟩
      | oT ks ds => obtain ⟨a, ea, ga, h⟩ := ok; exact ⟨a, ea, ga, h.up (fun o q => keep a o (neB a (R.own i a ⟨ea ▸ ev, _, e, rfl⟩).2.2) q) (Same.refl _)⟩
      | oI x0 C ks ds => obtain ⟨a, ea, ga, h⟩ := ok; exact ⟨a, ea, ga, h.up (fun o q => keep a o (neB a (R.own i a ⟨ea ▸ ev, _, e, rfl⟩).2.2) q) (Same.refl _)⟩
      | oL x0 ds => obtain ⟨a, ea, ga, h⟩ := ok; exact ⟨a, ea, ga, h.up (fun o q => keep a o (neB a (R.own i a ⟨ea ▸ ev, _, e, rfl⟩).2.2) q) (Same.refl _)⟩
  · by_cases ha : a = b
    · subst ha
      have z := R.bag _ c e
      cases c with
      | bag c => obtain ⟨_, _, _, _, y, _⟩ := z; rw [hb] at y; cases y
      | cnt => exact ⟨n, upd_same, gb⟩
    · exact (R.bag a c e).up (upd_ne ha) (Same.refl _) (R.bag a c e).gn
end
/-- left[0]: any int -/
def tdCnt (i : Nat) : TD := fun δ Q => match δ[i]? with
  | some .cnt => ∀ n : Int, Q (.dt (.int n)) δ
  | _ => False
/-- left[0] -= 1 -/
def tdCntS (i : Nat) : TDS := fun D δ => match δ[i]? with
  | some .cnt => D.nx δ
  | _ => False
section
variable {X : Cx} {o j e : Expr} {pos p1 : Pos} {i : Nat}
theorem pd_cnt (ho : PE X o (tVar i)) (hj : PE X j (tC (.int 0))) (hs : PlainIx j) : PD X (.Subscript o j pos) (tdCnt i) := by
  refine ⟨PE.weak (pe_ix ix_list ho hj hs) fun σ H Q ⟨B, H0, G0, δ, G, R, q⟩ => ?_, fun δ Q Q' q w => ?_⟩
  · unfold tdCnt at q
    split at q
    · rename_i e1
      rcases R.sl i _ e1 with z | ⟨v, ev, b, hB, rfl⟩
      · cases z
      · obtain ⟨k, hb, gb⟩ := R.bag b _ hB
        exact ⟨_, ev, b, _, 0, .int k, rfl, rfl, SqL.of hb, rfl, q k (.int k) H G R (Same.refl _) (Fra.refl _ _) (resOk_dt (.int k))⟩
    · exact q.elim
  · unfold tdCnt at q ⊢
    split at q
    · exact fun n => w _ _ (q n)
    · exact q
theorem pds_cnt (ho : PE X o (tVar i)) (hj : PE X j (tC (.int 0))) (he : PE X e (tC (.int 1))) (ha : ∀ ov iv new, augStore j ov iv new = (do holding [new, ov, iv] (setItem ov iv new); release [new, ov, iv] []; pure .next) := by intros; rfl) :
    PDS X (.AugAssign (.Subscript o j p1) .Sub e pos) (tdCntS i) := by
  refine ⟨PS.weak (ps_augS ho hj get_list he ip_sub set_list ha) fun D σ H ⟨B, H0, G0, δ, G, R, q⟩ => ?_, fun D D' δ w q => ?_⟩
  · unfold tdCntS at q
    split at q
    · rename_i e1
      rcases R.sl i _ e1 with z | ⟨v, ev, b, hB, rfl⟩
      · cases z
      · obtain ⟨k, hb, gb⟩ := R.bag b _ hB
        exact ⟨_, ev, b, _, 0, .int k, rfl, rfl, hb, rfl, _, _, rfl, rfl, b, _, 0, 0, rfl, rfl, hb, rfl, q σ _ G (R.count hB _)⟩
    · exact q.elim
  · unfold tdCntS at q ⊢
    split at q
    · exact w.nx _ q
    · exact q
end
/-! ### a call whose last argument is [e], taken as a counter -/
abbrev TDC := List Sl → (List Sl → Int → List Sl → Prop) → Prop
def MonoCn (t : TDC) : Prop := ∀ δ (Q Q' : List Sl → Int → List Sl → Prop), t δ Q → (∀ r n δ', Q r n δ' → Q' r n δ') → t δ Q'
def AftCn (K : PySem.W.Frag) (B : Bg) (H0 G0 H : Hp) (σ : L2.St) (G : Hp) (Q : List V → Hp → Prop) : List Sl → Int → List Sl → Prop := fun rs n δ' => ∀ vs p H' G', Rel K B H0 G0 H' σ δ' G' → Same G G' → Fra B H H' → ArgsOk K B G' vs rs → H' p = none → Q (vs ++ [.ref p]) (upd H' p (.lst [.int n]))
def tyCn (K : PySem.W.Frag) (t : TDC) : TA := fun σ H Q => ∃ B H0 G0 δ G, Rel K B H0 G0 H σ δ G ∧ t δ (AftCn K B H0 G0 H σ G Q)
structure PDCn (X : Cx) (es : List Expr) (t : TDC) : Prop where
  pa : PA X es (tyCn X.K t)
  mono : MonoCn t
def tdLastC (t : TD) : TDC := fun δ Q => t δ fun r δ1 => match r with
  | .dt (.int n) => Q [] n δ1
  | _ => False
def tdConsC (ta : TD) (tr : TDC) : TDC := fun δ Q => ta δ fun r δ1 => match az r with
  | none => False
  | some r' => tr δ1 fun rs n δ2 => Q (r' :: rs) n δ2
section
variable {X : Cx} {e : Expr} {es : List Expr} {pos p : Pos} {ta : TD} {u : TDC} {k n : Nat} {t : TF} {x : Str}
theorem pdcn_last (h : PD X e ta) (h1 : starEach [e] X.env = (false, eval e X.env) :: starEach [] X.env := by rfl) (h2 : starEach [.List [e] pos] X.env = (false, eval (.List [e] pos) X.env) :: starEach [] X.env := by rfl) : PDCn X [.List [e] pos] (tdLastC ta) := by
  refine ⟨PA.weak (pa_cons (pe_lst (pa_cons h.pe pa_nil h1)) pa_nil h2) fun σ H Q ⟨B, H0, G0, δ, G, R, q⟩ => ⟨B, H0, G0, δ, G, R, h.mono _ _ _ q fun r δ1 q v H1 G1 R1 s1 f1 ok => ?_⟩, fun δ Q Q' q w => h.mono _ _ _ q fun r δ1 q => ?_⟩
  · split at q
    · cases ok.1
      exact ⟨(by decide : (1 : Nat) ≤ sizeLine), fun p hp => q [] p H1 G1 R1 s1 f1 trivial hp⟩
    · exact q.elim
  · split at q
    · exact w _ _ _ q
    · exact q
theorem pdcn_cons (h : PD X e ta) (k : PDCn X es u) (hs : starEach (e :: es) X.env = (false, eval e X.env) :: starEach es X.env := by rfl) : PDCn X (e :: es) (tdConsC ta u) := by
  refine ⟨PA.weak (pa_cons h.pe k.pa hs) fun σ H Q ⟨B, H0, G0, δ, G, R, q⟩ => ⟨B, H0, G0, δ, G, R, h.mono _ _ _ q fun r δ1 q v H1 G1 R1 s1 f1 ok => ?_⟩, fun δ Q Q' q w => h.mono _ _ _ q fun r δ1 q => ?_⟩
  · cases ea : az r with
    | none => rw [ea] at q; exact q.elim
    | some r' =>
      rw [ea] at q
      obtain ⟨G2, R2, s2, ha⟩ := freezeA R1 ok ea
      exact ⟨B, H0, G0, δ1, G2, R2, k.mono _ _ _ q fun rs n δ2 q vs p H3 G3 R3 s3 f3 oks hp => q (v :: vs) p H3 G3 R3 ((s1.trans s2).trans s3) (f1.trans f3) ⟨ha.mono s3, oks⟩ hp⟩
  · cases ea : az r with
    | none => rw [ea] at q; exact q
    | some r' => rw [ea] at q; exact k.mono _ _ _ q fun rs n δ2 q => w _ _ _ q
def tdCallC (t : TF) (u : TDC) : TD := fun δ Q => u δ fun rs _ δ' => t (rs ++ [.cnt]) (fun r => Q r δ')
theorem argsOk_snoc {K : PySem.W.Frag} {B B' : Bg} {G : Hp} (sub : ∀ x, x ∈ B → x ∈ B') {w : V} {s : Sl} (hw : ArgOk K B' G w s) : ∀ {vs : List V} {rs : List Sl}, ArgsOk K B G vs rs → ArgsOk K B' G (vs ++ [w]) (rs ++ [s])
  | [], [], _ => ⟨hw, trivial⟩
  | v :: vs, r :: rs, h => by
    refine ⟨?_, argsOk_snoc sub hw h.2⟩
    have h1 := h.1
    cases r with
    | bag => obtain ⟨b, c, hb, e⟩ := h1; exact ⟨b, c, sub _ hb, e⟩
    | cnt => obtain ⟨b, hb, e⟩ := h1; exact ⟨b, sub _ hb, e⟩
    | xcp _ _ _ _ _ => exact h1.elim
    | dt d => exact h1
    | no => exact h1.elim
    | ol _ => exact h1.elim
    | oK _ _ => exact h1.elim
    | oT _ _ => exact h1.elim
    | oI _ _ _ _ => exact h1.elim
    | oL _ _ => exact h1.elim
  | [], _ :: _, h => h.elim
  | _ :: _, [], h => h.elim
theorem Rel.callC {K : PySem.W.Frag} {B : Bg} {H0 G0 H H' G G' : Hp} {σ : L2.St} {δ : List Sl} {q : Addr} {m : Int} (R : Rel K B H0 G0 H σ δ G) (hp : H q = none) {v : V} {r : Sl} (hr : r ≠ .cnt) (kk : RetOk K ((q, .cnt) :: B) (upd H q (.lst [.int m])) G H' G' v r) :
    Rel K B H0 G0 H' σ δ G' ∧ Fra B H H' ∧ Same G G' ∧ ResOk K B H0 H' σ δ G' v r := by
  have nB : NotB B q := (R.newOwn hp).2.1
  have gq : G q = none := R.sub.free hp
  have fr : Fra B H H' := fun a o e nb => kk.fra a o (by rw [upd_ne (ne_of_none e hp)]; exact e) fun c hc => by
    rcases List.mem_cons.mp hc with z | z
    · cases z; rw [hp] at e; cases e
    · exact nb c z
  have fresh : ∀ a, upd H q (.lst [.int m]) a = none → H a = none := fun a e => by
    by_cases ha : a = q
    · rw [ha]; exact hp
    · rw [upd_ne ha] at e; exact e
  have k2 : RetOk K B H G H' G' v r := by
    refine ⟨kk.gg, kk.gh, fun b c hb => kk.bag b c (List.mem_cons_of_mem _ hb), fr, kk.sz, fun a o e => (kk.gn a o e).imp id (fresh a), ?_, kk.no, fun io a e => fresh a (kk.own io a e)⟩
    have ok := kk.val
    cases r with
    | bag =>
      obtain ⟨b, c, hb, e⟩ := ok
      rcases List.mem_cons.mp hb with z | z
      · cases z
      · exact ⟨b, c, z, e⟩
    | cnt => exact absurd rfl hr
    | xcp _ _ _ _ _ => exact ok
    | no => exact ok
    | dt d => exact ok
    | ol _ => exact ok
    | oK _ _ => exact ok
    | oT _ _ => exact ok
    | oI _ _ _ _ => exact ok
    | oL _ _ => exact ok
  obtain ⟨R2, ok⟩ := R.call k2
  exact ⟨R2, fr, kk.gg, ok⟩
theorem pd_fnC (F : FnX X.prog X.w X.K X.mg X.base k x n t) (hnc : ∀ rs (Q : Sl → Prop), t rs Q → t rs fun r => r ≠ .cnt ∧ Q r) (hr : Room k X.A) (hg : Gl X x) (h : PDCn X (e :: es) u)
    (hdb : (x == ("__debug__" : Str)) = false := by decide) (he : starEach (e :: es) X.env = (false, eval e X.env) :: starEach es X.env := by rfl) (hpl : (backTo pos (starEach es X.env)).any (·.1) = false := by rfl) :
    PD X (.Call (.Name x p) (e :: es) [] pos) (tdCallC t u) := by
  obtain ⟨f, fd, ps, h1, h2, h3, h4⟩ := F.ex
  refine ⟨PE.weak (pe_call h1 hr hg h2 h3 h4 .nil pass0 h.pa hdb he hpl) fun σ H Q ⟨B, H0, G0, δ, G, R, q⟩ => ?_, fun δ Q Q' q w => h.mono _ _ _ q fun rs m δ' q => F.mono _ _ _ q fun r q => w _ _ q⟩
  refine ⟨B, H0, G0, δ, G, R, h.mono _ _ _ q fun rs m δ1 q vs a H1 G1 R1 s1 f1 oks ha => ?_⟩
  show spD X.K n t ((vs ++ [.ref a]) ++ []) _ Q E0
  rw [List.append_nil]
  have ga : G1 a = none := R1.sub.free ha
  have sH : Same H1 (upd H1 a (.lst [.int m])) := same_up ha
  refine ⟨by rw [List.length_append, oks.len, ← F.len _ _ q, List.length_append]; rfl, (a, .cnt) :: B, G1, _, R1.sub.trans sH, fun b c hb => ?_, R1.sz.upd (show (1 : Nat) ≤ sizeLine by decide), argsOk_snoc (s := .cnt) (w := .ref a) (fun z hz => List.mem_cons_of_mem _ hz) ⟨a, List.mem_cons_self, rfl⟩ oks, F.mono _ _ _ (hnc _ _ q) fun r q v H' G' kk => ?_⟩
  · rcases List.mem_cons.mp hb with z | z
    · cases z; exact ⟨m, upd_same, ga⟩
    · have nb : b ≠ a := fun e => (R1.newOwn ha).2.1 c (e ▸ z)
      exact (R1.bag b c z).up (upd_ne nb) (Same.refl _) (R1.bag b c z).gn
  · obtain ⟨R2, fr, sg, ok⟩ := R1.callC ha q.1 kk
    exact q.2 v H' G' R2 (s1.trans sg) (f1.trans fr) ok
end
end DL

set_option Elab.async false
set_option linter.all false
set_option maxRecDepth 100000
set_option maxHeartbeats 4000000
/-! DLL: comprehensions with two fors; all, any, max over data. -/
namespace DL
open PySem PySem.Spec PyProof.Rows L2
theorem hide_hide (δ : List Sl) : hideOwn (hideOwn δ) = hideOwn δ := by
  unfold hideOwn
  rw [List.map_map]
  congr 1
  funext s
  show (if (if s.isOwn = true then Sl.no else s).isOwn = true then Sl.no else (if s.isOwn = true then Sl.no else s)) = _
  cases s <;> rfl
section
variable {K : PySem.W.Frag} {B : Bg} {H0 G0 H H' G G' : Hp} {σ σ2 : L2.St} {δ δ2 : List Sl}
theorem Rel.low (R : Rel K B H0 G0 H σ δ G) (R2 : Rel K B H G H' σ2 δ2 G') : Rel K B H0 G0 H' σ2 (hideOwn δ2) G' := by
  have RO := R.outer R2
  have RI := R2.inner
  have no : ∀ i a, ¬ Own σ2 (hideOwn δ2) i a := fun i a ⟨_, s, e, io⟩ => by rw [(hide_get e).1] at io; cases io
  exact ⟨R2.sub, RO.g0, RO.ent, RI.len, RI.sl, fun i j a h => (no i a h).elim, fun i a h => (no i a h).elim, R2.bag, RO.gn, R2.sz⟩
end
def compD2 (g : TDG) (tt : TDT) (ti1 : TDI) (g1 : TDG) (tt1 : TDT) (te : TD) (δw : List Sl) (vs1 : List Nat) : List D → List D → (List D → Prop) → Prop
  | [], acc, Q => Q acc
  | d :: ds, acc, Q => g d δw fun δ1 => tt δ1 fun b δ2 => δ2 = δ1 ∧ (if b = true then ti1 δ1 fun ys δ3 => δ3 = δ1 ∧ acc.length + ys.length ≤ sizeLine ∧
      compD g1 tt1 te (wipeD (hideOwn δ1) vs1) ys acc (fun acc' => compD2 g tt ti1 g1 tt1 te δw vs1 ds acc' Q)
    else compD2 g tt ti1 g1 tt1 te δw vs1 ds acc Q)
def tdLc2 (ti : TDI) (g : TDG) (tt : TDT) (ti1 : TDI) (g1 : TDG) (tt1 : TDT) (te : TD) (vs vs1 : List Nat) : TD := fun δ Q => ti δ fun xs δ1 => compD2 g tt ti1 g1 tt1 te (wipeD (hideOwn δ1) vs) vs1 xs [] fun ys => Q (.ol ys) δ1
theorem compD2_mono {g g1 : TDG} {tt tt1 : TDT} {ti1 : TDI} {te : TD} (mg : MonoG g) (mt : MonoT tt) (mi : MonoI ti1) (mg1 : MonoG g1) (mt1 : MonoT tt1) (me : MonoD te) {δw : List Sl} {vs1 : List Nat} {Q Q' : List D → Prop} (w : ∀ ys, Q ys → Q' ys) : ∀ (ds acc : List D), compD2 g tt ti1 g1 tt1 te δw vs1 ds acc Q → compD2 g tt ti1 g1 tt1 te δw vs1 ds acc Q'
  | [], acc, h => w _ h
  | d :: ds, acc, h => mg _ _ _ _ h fun δ1 h1 => mt _ _ _ h1 fun b δ2 h2 => ⟨h2.1, by
      have h3 := h2.2
      cases b with
      | true =>
        rw [if_pos rfl] at h3 ⊢
        exact mi _ _ _ h3 fun ys δ3 h4 => ⟨h4.1, h4.2.1, compD_mono mg1 mt1 me (fun ys q => compD2_mono mg mt mi mg1 mt1 me w ds ys q) _ _ h4.2.2⟩
      | false =>
        rw [if_neg Bool.false_ne_true] at h3 ⊢
        exact compD2_mono mg mt mi mg1 mt1 me w ds acc h3⟩
section
variable {X : Cx} {elt tg iter tg1 iter1 : Expr} {ifs ifs1 : List Expr} {scope : Scope} {own : List (Str × Nat)} {pos : Pos} {ti ti1 : TDI} {g g1 : TDG} {tt tt1 : TDT} {te : TD} {vs vs1 : List Nat}
theorem tdLc2_run (hi : MonoI ti) (mg : MonoG g) (mt : MonoT tt) (mi1 : MonoI ti1) (mg1 : MonoG g1) (mt1 : MonoT tt1) (me : MonoD te) : ∀ σ H Q, tyE X.K (tdLc2 ti g tt ti1 g1 tt1 te vs vs1) σ H Q → tLc2 (tyI X.K ti) (tyG X.K vs g) (tyT X.K tt) (tyI X.K ti1) (tyG X.K vs1 g1) (tyT X.K tt1) (tyE X.K te) vs vs1 σ H Q := by
  intro σ H Q ⟨B, H0, G0, δ, G, R, q⟩
  refine ⟨B, H0, G0, δ, G, R, hi _ _ _ q fun xs δ1 q J H1 G1 R1 s1 f1 it => fun D hD => ?_⟩
  obtain ⟨d0, dB, dO⟩ := R1.newOwn hD
  have gD : G1 D = none := R1.sub.free hD
  refine ⟨fun i m H' => i + m = xs.length ∧ ∃ acc accD G', H' D = some (.lst acc) ∧ DdA X.K G' acc accD ∧ Rel X.K B H0 G1 H' σ δ1 G' ∧ G' D = none ∧ Fra B H1 H' ∧
    compD2 g tt ti1 g1 tt1 te (wipeD (hideOwn δ1) vs) vs1 (xs.drop i) accD (fun ys => Aft X.K B H0 G0 H σ G Q (.ol ys) δ1),
    ⟨xs.length, by omega, [], [], G1, upd_same, .nil, (R1.rebase).laidO hD (Nat.zero_le _), gD, Fra.upd hD, q⟩, fun i m H' hW => ?_⟩
  obtain ⟨em, acc, accD, G', eD, hA, R', gD', f', q'⟩ := hW
  by_cases hi' : i < xs.length
  · obtain ⟨each, _⟩ := it B H' G' H' σ (hideOwn δ1) G' R'.inner R'.g0
    obtain ⟨go, yld⟩ := each i xs[i] (List.getElem?_eq_getElem hi')
    rw [List.drop_eq_getElem_cons hi'] at q'
    refine .inr ⟨go, fun H2 => ∃ acc2 accD2 G2, H2 D = some (.lst acc2) ∧ DdA X.K G2 acc2 accD2 ∧ Rel X.K B H0 G1 H2 σ δ1 G2 ∧ G2 D = none ∧ Fra B H1 H2 ∧ compD2 g tt ti1 g1 tt1 te (wipeD (hideOwn δ1) vs) vs1 (xs.drop (i + 1)) accD2 (fun ys => Aft X.K B H0 G0 H σ G Q (.ol ys) δ1),
      fun H2 ⟨acc2, accD2, G2, h1, h2, h4, h5, h6, h7⟩ => ⟨m - 1, by omega, by omega, acc2, accD2, G2, h1, h2, h4, h5, h6, h7⟩, fun x H3 y => ?_⟩
    obtain ⟨G3, R3, s3, f3, hd⟩ := yld x H3 y
    have fin : ∀ {σ2 : L2.St} {δ2 : List Sl} {H4 G4 : Hp}, Rel X.K B H' G' H4 σ2 δ2 G4 → Rel X.K B H0 G1 H4 σ δ1 G4 ∧ H4 D = some (.lst acc) ∧ G4 D = none ∧ Fra B H1 H4 := fun {σ2 δ2 H4 G4} R4 =>
      ⟨R'.outer R4, R4.ent _ _ eD dB, by
        cases z : G4 D with
        | none => rfl
        | some o =>
          rcases R4.gn _ _ z with y | y
          · rw [gD'] at y; cases y
          · rw [eD] at y; (cases y), f'.trans fun a o e n => R4.ent a o e n⟩
    refine ⟨B, H', G', _, G3, xs[i], R3.wipes vs, hd, mg _ _ _ _ q' fun δ4 q4 σ4 ew R4 => ⟨ew.trans (wipe_wipe σ vs), ?_⟩⟩
    refine ⟨B, H', G', δ4, G3, R4, mt _ _ _ q4 fun b δ5 q5 H5 G5 R5 s5 f5 => ?_⟩
    obtain ⟨rfl, q5⟩ := q5
    cases b with
    | false =>
      obtain ⟨h1, h2, h3, h4⟩ := fin R5
      exact ⟨acc, accD, G5, h2, DdA.mono R5.g0 _ _ hA, h1, h3, h4, q5⟩
    | true =>
      refine ⟨B, H', G', δ5, G5, R5, mi1 _ _ _ q5 fun ys δ6 q6 J1 H6 G6 R6 s6 f6 it1 => ?_⟩
      obtain ⟨rfl, hz, q6⟩ := q6
      obtain ⟨h1, h2, h3, h4⟩ := fin R6
      refine ⟨fun j k Hc => j + k = ys.length ∧ ∃ acc2 accD2 G2, Hc D = some (.lst acc2) ∧ DdA X.K G2 acc2 accD2 ∧ acc2.length ≤ acc.length + j ∧ Rel X.K B H0 G1 Hc σ δ1 G2 ∧ Rel X.K B H0 G1 Hc σ4 (hideOwn δ6) G2 ∧ Same G6 G2 ∧ G2 D = none ∧ Fra B H1 Hc ∧
        compD g1 tt1 te (wipeD (hideOwn δ6) vs1) (ys.drop j) accD2 (fun acc' => compD2 g tt ti1 g1 tt1 te (wipeD (hideOwn δ1) vs) vs1 (xs.drop (i + 1)) acc' (fun ys => Aft X.K B H0 G0 H σ G Q (.ol ys) δ1)),
        ⟨ys.length, by omega, acc, accD, G6, h2, DdA.mono R6.g0 _ _ hA, Nat.le_refl _, h1, R'.low R6, Same.refl _, h3, h4, q6⟩, fun j k Hc hW1 => ?_⟩
      obtain ⟨ek, acc2, accD2, G2, e2, hA2, la2, Ro, Rl, sg2, gD2, fr2, q2⟩ := hW1
      have Rb : Rel X.K B Hc G2 Hc σ4 (hideOwn δ6) G2 := by have z := Rl.inner; rw [hide_hide] at z; exact z
      obtain ⟨each1, stop1⟩ := it1 B Hc G2 Hc σ4 (hideOwn δ6) G2 Rb sg2
      by_cases hj : j < ys.length
      · obtain ⟨go1, yld1⟩ := each1 j ys[j] (List.getElem?_eq_getElem hj)
        rw [List.drop_eq_getElem_cons hj] at q2
        refine .inr ⟨go1, fun H2 => ∃ acc3 accD3 G3, H2 D = some (.lst acc3) ∧ DdA X.K G3 acc3 accD3 ∧ acc3.length ≤ acc.length + (j + 1) ∧ Rel X.K B H0 G1 H2 σ δ1 G3 ∧ Rel X.K B H0 G1 H2 σ4 (hideOwn δ6) G3 ∧ Same G6 G3 ∧ G3 D = none ∧ Fra B H1 H2 ∧
          compD g1 tt1 te (wipeD (hideOwn δ6) vs1) (ys.drop (j + 1)) accD3 (fun acc' => compD2 g tt ti1 g1 tt1 te (wipeD (hideOwn δ1) vs) vs1 (xs.drop (i + 1)) acc' (fun ys => Aft X.K B H0 G0 H σ G Q (.ol ys) δ1)),
          fun H2 ⟨acc3, accD3, G3, w1, w2, w3, w4, w5, w6, w7, w8, w9⟩ => ⟨k - 1, by omega, by omega, acc3, accD3, G3, w1, w2, w3, w4, w5, w6, w7, w8, w9⟩, fun x1 H7 y1 => ?_⟩
        obtain ⟨G7, R7, s7, f7, hd7⟩ := yld1 x1 H7 y1
        have fin1 : ∀ {σ2 : L2.St} {δ2 : List Sl} {H8 G8 : Hp}, Rel X.K B Hc G2 H8 σ2 δ2 G8 → Rel X.K B H0 G1 H8 σ δ1 G8 ∧ Rel X.K B H0 G1 H8 σ4 (hideOwn δ6) G8 ∧ H8 D = some (.lst acc2) ∧ G8 D = none ∧ Fra B H1 H8 := fun {σ2 δ2 H8 G8} R8 =>
          ⟨Ro.outer R8, Rl.outer R8, R8.ent _ _ e2 dB, by
            cases z : G8 D with
            | none => rfl
            | some o =>
              rcases R8.gn _ _ z with y | y
              · rw [gD2] at y; cases y
              · rw [e2] at y; (cases y), fr2.trans fun a o e n => R8.ent a o e n⟩
        refine ⟨B, Hc, G2, _, G7, ys[j], R7.wipes vs1, hd7, mg1 _ _ _ _ q2 fun δ8 q8 σ8 ew8 R8 => ⟨ew8.trans (wipe_wipe σ4 vs1), ?_⟩⟩
        refine ⟨B, Hc, G2, δ8, G7, R8, mt1 _ _ _ q8 fun b1 δ9 q9 H9 G9 R9 s9 f9 => ?_⟩
        obtain ⟨rfl, q9⟩ := q9
        cases b1 with
        | false =>
          obtain ⟨w1, w2, w3, w4, w5⟩ := fin1 R9
          exact ⟨acc2, accD2, G9, w3, DdA.mono R9.g0 _ _ hA2, by omega, w1, w2, sg2.trans R9.g0, w4, w5, q9⟩
        | true =>
          refine ⟨B, Hc, G2, δ9, G9, R9, me _ _ _ q9 fun r δa qa v Ha Ga Ra sa fa ok => ?_⟩
          obtain ⟨rfl, qa⟩ := qa
          split at qa
          · rename_i y ey
            obtain ⟨Gb, Rb2, sb, hy⟩ := freeze Ra ok ey
            obtain ⟨w1, w2, w3, w4, w5⟩ := fin1 Rb2
            have hl : (acc2 ++ [v]).length ≤ acc.length + (j + 1) := by rw [List.length_append]; show acc2.length + 1 ≤ _; omega
            have hsz : acc2.length < sizeLine := by have := hA.len; omega
            have noO : ∀ t, ¬ Own σ4 (hideOwn δ6) t D := fun t ⟨_, s, e, io⟩ => by rw [(hide_get e).1] at io; cases io
            have so : SzO (.lst (acc2 ++ [v])) := by show (acc2 ++ [v]).length ≤ sizeLine; rw [List.length_append]; exact hsz
            refine ⟨acc2, w3, hsz, acc2 ++ [v], accD2 ++ [y], Gb, upd_same, (DdA.mono Rb2.g0 _ _ hA2).append (.one hy), hl, ?_, ?_, sg2.trans Rb2.g0, w4, fun a o e n => ?_, qa⟩
            · exact w1.writeFree d0 w4 dB (fun t oj => by
                obtain ⟨e1, s, e2, e3⟩ := oj
                exact dO t ⟨e1, s, e2, e3⟩) so
            · exact w2.writeFree d0 w4 dB noO so
            · by_cases ha : a = D
              · subst ha; rw [hD] at e; cases e
              · rw [upd_ne ha]; exact w5 a o e n
          · exact qa.elim
      · have ej : j = ys.length := by omega
        subst ej
        rw [List.drop_length] at q2
        exact .inl ⟨stop1, acc2, accD2, G2, e2, hA2, Ro, gD2, fr2, q2⟩
  · have ei : i = xs.length := by omega
    subst ei
    obtain ⟨_, stop⟩ := it B H0 G1 H' σ δ1 G' R' R'.g0
    rw [List.drop_length] at q'
    refine .inl ⟨stop, q' (.ref D) H' G' (R1.back R') (s1.trans R'.g0) (f1.trans f') ⟨⟨D, rfl, gD', acc, eD, hA⟩, fun z => (nomatch z), fun _ a e => ?_⟩⟩
    cases e
    exact ⟨d0, dB, dO⟩
theorem tdLc2_mono (hi : MonoI ti) (mg : MonoG g) (mt : MonoT tt) (mi1 : MonoI ti1) (mg1 : MonoG g1) (mt1 : MonoT tt1) (me : MonoD te) : MonoD (tdLc2 ti g tt ti1 g1 tt1 te vs vs1) := fun δ Q Q' q w => hi _ _ _ q fun xs δ1 q => compD2_mono mg mt mi1 mg1 mt1 me (fun ys q => w _ _ q) _ _ q
theorem pd_lc2 (hc : X.calm = true) (hN : X.N.Nodup) (hi : PDI X tg iter ti) (ok : BlkOk X.N X.env.scope scope own) (ev : own.map (·.2) = vs) (hv : ∀ i ∈ vs1, i ∈ own.map (·.2))
    (hg : ∀ s H C cl fp, PDG (Blk X scope s H C cl fp) tg vs g) (ht : ∀ s H C cl fp, PDTs (Blk X scope s H C cl fp) ifs tt) (hi1 : ∀ s H C cl fp, PDI (Blk X scope s H C cl fp) tg1 iter1 ti1) (hg1 : ∀ s H C cl fp, PDG (Blk X scope s H C cl fp) tg1 vs1 g1) (ht1 : ∀ s H C cl fp, PDTs (Blk X scope s H C cl fp) ifs1 tt1) (he : ∀ s H C cl fp, PD (Blk X scope s H C cl fp) elt te)
    (hs : ∀ x, foldedSetIterable iter X.env x = pure x := by intro _; rfl) (hs1 : ∀ env x, foldedSetIterable iter1 env x = pure x := by intro _ _; rfl) : PD X (.ListComp elt [⟨tg, iter, ifs, 0⟩, ⟨tg1, iter1, ifs1, 0⟩] scope pos) (tdLc2 ti g tt ti1 g1 tt1 te vs vs1) := by
  subst ev
  have m1 := (hg X.s_0 X.H_0 0 [] []).mono
  have m2 := (ht X.s_0 X.H_0 0 [] []).mono
  have m3 := (he X.s_0 X.H_0 0 [] []).mono
  have m4 := (hi1 X.s_0 X.H_0 0 [] []).mono
  have m5 := (hg1 X.s_0 X.H_0 0 [] []).mono
  have m6 := (ht1 X.s_0 X.H_0 0 [] []).mono
  exact ⟨PE.weak (pe_lc2 (te := tyE X.K te) (tt := tyT X.K tt) (g := tyG X.K (own.map (·.2)) g) (wi1 := tyI X.K ti1) (g1 := tyG X.K vs1 g1) (tt1 := tyT X.K tt1) hc hN hi.pi ok hv (fun s H C cl fp => (hg s H C cl fp).pg) (fun s H C cl fp => (ht s H C cl fp).pt) (fun s H C cl fp => (hi1 s H C cl fp).pi) (fun s H C cl fp => (hg1 s H C cl fp).pg) (fun s H C cl fp => (ht1 s H C cl fp).pt) (fun s H C cl fp => (he s H C cl fp).pe) hs hs1) (tdLc2_run hi.mono m1 m2 m4 m5 m6 m3), tdLc2_mono hi.mono m1 m2 m4 m5 m6 m3⟩
end
/-! ### the target's slots may be fewer than the block's -/
theorem wipe_in {i : Nat} {v : Option V} {σ : L2.St} {vs : List Nat} (h : i ∈ vs) : wipe (σ.set i v) vs = wipe σ vs := wipe_set h
theorem pdg_nameW {X : Cx} {tg : Expr} {i : Nat} {vs : List Nat} (h : PG X tg (gName i)) (hi : i ∈ vs) : PDG X tg vs (gdName i) :=
  ⟨PG.weak h fun v σ H Q ⟨B, H0, G0, δ, G, d, R, hd, q⟩ => q _ (wipe_set hi) (R.assign (resOk_dt hd) i), fun d δ Q Q' q w => w _ q⟩
/-! ### all, any, max -/
def blsOf : List D → Option (List Bool)
  | [] => some []
  | .bl b :: ds => match blsOf ds with
    | some bs => some (b :: bs)
    | none => none
  | _ :: _ => none
def intsOf : List D → Option (List Int)
  | [] => some []
  | .int i :: ds => match intsOf ds with
    | some bs => some (i :: bs)
    | none => none
  | _ :: _ => none
theorem blsOf_map : ∀ bs : List Bool, blsOf (bs.map D.bl) = some bs
  | [] => rfl
  | b :: bs => by show (match blsOf (bs.map D.bl) with | some bs => some (b :: bs) | none => none) = _; rw [blsOf_map bs]
theorem intsOf_map : ∀ bs : List Int, intsOf (bs.map D.int) = some bs
  | [] => rfl
  | b :: bs => by show (match intsOf (bs.map D.int) with | some bs => some (b :: bs) | none => none) = _; rw [intsOf_map bs]
theorem blsOf_ok {K : PySem.W.Frag} {G : Hp} : ∀ {vs : List V} {ds : List D} {bs : List Bool}, DdA K G vs ds → blsOf ds = some bs → vs = bs.map V.bl
  | _, [], _, h, e => by cases h; cases e; rfl
  | _, .bl b :: ds, _, h, e => by
    cases h with
    | cons h1 h2 =>
      have e' : (match blsOf ds with | some bs => some (b :: bs) | none => none) = some _ := e
      cases e1 : blsOf ds with
      | none => rw [e1] at e'; cases e'
      | some bs => rw [e1] at e'; cases e'; cases h1; rw [blsOf_ok h2 e1]; rfl
  | _, .non :: ds, _, h, e => by cases e
  | _, .int _ :: ds, _, h, e => by cases e
  | _, .str _ :: ds, _, h, e => by cases e
  | _, .lst _ :: ds, _, h, e => by cases e
  | _, .tup _ :: ds, _, h, e => by cases e
  | _, .dK _ _ :: ds, _, h, e => by cases e
  | _, .dT _ _ :: ds, _, h, e => by cases e
  | _, .ins _ _ _ :: ds, _, h, e => by cases e
theorem intsOf_ok {K : PySem.W.Frag} {G : Hp} : ∀ {vs : List V} {ds : List D} {bs : List Int}, DdA K G vs ds → intsOf ds = some bs → vs = bs.map V.int
  | _, [], _, h, e => by cases h; cases e; rfl
  | _, .int b :: ds, _, h, e => by
    cases h with
    | cons h1 h2 =>
      have e' : (match intsOf ds with | some bs => some (b :: bs) | none => none) = some _ := e
      cases e1 : intsOf ds with
      | none => rw [e1] at e'; cases e'
      | some bs => rw [e1] at e'; cases e'; cases h1; rw [intsOf_ok h2 e1]; rfl
  | _, .non :: ds, _, h, e => by cases e
  | _, .bl _ :: ds, _, h, e => by cases e
  | _, .str _ :: ds, _, h, e => by cases e
  | _, .lst _ :: ds, _, h, e => by cases e
  | _, .tup _ :: ds, _, h, e => by cases e
  | _, .dK _ _ :: ds, _, h, e => by cases e
  | _, .dT _ _ :: ds, _, h, e => by cases e
  | _, .ins _ _ _ :: ds, _, h, e => by cases e
def gAll : D → List Sl → QD → Prop := fun d δ Q => match d with
  | .lst xs => match blsOf xs with
    | some bs => Q (.dt (.bl (bs.all id))) δ
    | none => False
  | _ => False
def gAny : D → List Sl → QD → Prop := fun d δ Q => match d with
  | .lst xs => match blsOf xs with
    | some bs => Q (.dt (.bl (bs.any id))) δ
    | none => False
  | _ => False
def gMax : D → List Sl → QD → Prop := fun d δ Q => match d with
  | .lst xs => match intsOf xs with
    | some ns => 0 < ns.length ∧ ∀ m, m ∈ ns → (∀ n ∈ ns, n ≤ m) → Q (.dt (.int m)) δ
    | none => False
  | _ => False
section
variable {X : Cx} {e : Expr} {u : TDA} {p pos : Pos}
theorem pd_all (hc : X.calm = true) (hg : Gl X "all") (hm : X.mg "all" = none) (h : PDA X [e] u) (he : starEach [e] X.env = (false, eval e X.env) :: starEach [] X.env := by rfl) (hpl : (backTo pos (starEach [] X.env)).any (·.1) = false := by rfl) :
    PD X (.Call (.Name "all" p) [e] [] pos) (tdCB (f1 gAll) u) :=
  pd_callB (cr_all hc) (mono_f1 fun d δ Q Q' q w => by
      unfold gAll at q ⊢
      split at q
      · split at q
        · exact w _ _ q
        · exact q
      · exact q)
    (callS_1 fun B H0 G0 H σ δ G v d Q R hd q => by
      unfold gAll at q
      split at q
      · split at q
        · rename_i bs e1
          cases hd with
          | lst h1 h2 =>
            have z := blsOf_ok h2 e1
            subst z
            exact ⟨_, bs, rfl, SqL.of (R.sub _ _ h1), aft_here R (.bl _) q⟩
        · exact q.elim
      · exact q.elim) hg hm boot_all h (by decide) (by decide) he hpl
theorem pd_any (hc : X.calm = true) (hg : Gl X "any") (hm : X.mg "any" = none) (h : PDA X [e] u) (he : starEach [e] X.env = (false, eval e X.env) :: starEach [] X.env := by rfl) (hpl : (backTo pos (starEach [] X.env)).any (·.1) = false := by rfl) :
    PD X (.Call (.Name "any" p) [e] [] pos) (tdCB (f1 gAny) u) :=
  pd_callB (cr_any hc) (mono_f1 fun d δ Q Q' q w => by
      unfold gAny at q ⊢
      split at q
      · split at q
        · exact w _ _ q
        · exact q
      · exact q)
    (callS_1 fun B H0 G0 H σ δ G v d Q R hd q => by
      unfold gAny at q
      split at q
      · split at q
        · rename_i bs e1
          cases hd with
          | lst h1 h2 =>
            have z := blsOf_ok h2 e1
            subst z
            exact ⟨_, bs, rfl, SqL.of (R.sub _ _ h1), aft_here R (.bl _) q⟩
        · exact q.elim
      · exact q.elim) hg hm boot_any h (by decide) (by decide) he hpl
theorem pd_max (hc : X.calm = true) (hg : Gl X "max") (hm : X.mg "max" = none) (h : PDA X [e] u) (he : starEach [e] X.env = (false, eval e X.env) :: starEach [] X.env := by rfl) (hpl : (backTo pos (starEach [] X.env)).any (·.1) = false := by rfl) :
    PD X (.Call (.Name "max" p) [e] [] pos) (tdCB (f1 gMax) u) :=
  pd_callB (cr_max hc) (mono_f1 fun d δ Q Q' q w => by
      unfold gMax at q ⊢
      split at q
      · split at q
        · exact ⟨q.1, fun m h1 h2 => w _ _ (q.2 m h1 h2)⟩
        · exact q
      · exact q)
    (callS_1 fun B H0 G0 H σ δ G v d Q R hd q => by
      unfold gMax at q
      split at q
      · split at q
        · rename_i bs e1
          cases hd with
          | lst h1 h2 =>
            have z := intsOf_ok h2 e1
            subst z
            exact ⟨_, bs, rfl, SqL.of (R.sub _ _ h1), q.1, fun m h1 h2 => aft_here R (.int _) (q.2 m h1 h2)⟩
        · exact q.elim
      · exact q.elim) hg hm boot_max h (by decide) (by decide) he hpl
end
end DL

set_option Elab.async false
set_option linter.all false
set_option maxRecDepth 100000
set_option maxHeartbeats 4000000
/-! DLM: formulas as data: plain facts. -/
namespace DL
open PySem PySem.Spec PyProof.Rows L2
inductive W3 where | sum | most | least
  deriving DecidableEq
def W3.s : W3 → Str
  | .sum => "sum"
  | .most => "most"
  | .least => "least"
inductive WR where | total | many | top | low
  deriving DecidableEq
def WR.s : WR → Str
  | .total => "total"
  | .many => "many"
  | .top => "top"
  | .low => "low"
inductive SG where | eq | ne | lt | le | gt | ge
  deriving DecidableEq
def SG.s : SG → Str
  | .eq => "="
  | .ne => "<>"
  | .lt => "<"
  | .le => "<="
  | .gt => ">"
  | .ge => ">="
inductive Hd where
  | mn (w : W3) | tm (i : Int) | ov | cs (s : SG)
inductive Fm where
  | num (i : Int) | emp | inp | nm (c r : D) | rg (w : WR) (c a b : D) | node (h : Hd) (xs : List Fm)
/-- a name or a range -/
inductive Rd where
  | nm (c r : D) | rg (c a b : D)
def Rd.d : Rd → D
  | .nm c r => .tup [.str "name", c, r]
  | .rg c a b => .tup [.str "rows", c, a, b]
def Rd.isRg : Rd → Bool
  | .nm _ _ => false
  | .rg _ _ _ => true
def hdD : Hd → List D → D
  | .mn w, ds => .tup [.str w.s, .tup ds]
  | .tm i, ds => .tup (.str "times" :: .int i :: ds)
  | .ov, ds => .tup (.str "over" :: ds)
  | .cs s, ds => .tup (.str "case" :: match ds with
    | [] => []
    | d :: ds => d :: .str s.s :: ds)
mutual
def Fm.d : Fm → D
  | .num i => .tup [.str "number", .int i]
  | .emp => .tup [.str "empty"]
  | .inp => .tup [.str "input"]
  | .nm c r => .tup [.str "name", c, r]
  | .rg w c a b => .tup [.str w.s, .tup [.str "rows", c, a, b]]
  | .node h xs => hdD h (fdA xs)
def fdA : List Fm → List D
  | [] => []
  | x :: xs => x.d :: fdA xs
end
theorem fdA_map : ∀ xs : List Fm, fdA xs = xs.map Fm.d
  | [] => by rw [fdA]; rfl
  | x :: xs => by rw [fdA, fdA_map xs]; rfl
theorem fdA_len (xs : List Fm) : (fdA xs).length = xs.length := by rw [fdA_map, List.length_map]
/-- as many parts as the head wants -/
def Hd.fit : Hd → List Fm → Prop
  | .mn _, _ => True
  | .tm _, xs => ∃ a, xs = [a]
  | .ov, xs => ∃ a b, xs = [a, b]
  | .cs _, xs => ∃ a b c d, xs = [a, b, c, d]
theorem Hd.fit_len {h : Hd} {xs ys : List Fm} (e : xs.length = ys.length) (f : h.fit xs) : h.fit ys := by
  cases h with
  | mn => trivial
  | tm => obtain ⟨a, rfl⟩ := f; match ys, e with | [x], _ => exact ⟨x, rfl⟩
  | ov => obtain ⟨a, b, rfl⟩ := f; match ys, e with | [x, y], _ => exact ⟨x, y, rfl⟩
  | cs => obtain ⟨a, b, c, d, rfl⟩ := f; match ys, e with | [x, y, z, u], _ => exact ⟨x, y, z, u, rfl⟩
def Fm.parts : Fm → List Fm
  | .node _ xs => xs
  | _ => []
mutual
/-- each node has as many parts as it wants -/
def Fm.wf : Fm → Prop
  | .node h xs => h.fit xs ∧ wfA xs
  | .num _ => True
  | .emp => True
  | .inp => True
  | .nm _ _ => True
  | .rg _ _ _ _ => True
def wfA : List Fm → Prop
  | [] => True
  | x :: xs => x.wf ∧ wfA xs
end
mutual
def Fm.hgt : Fm → Nat
  | .node _ xs => hgtA xs + 1
  | .num _ => 0
  | .emp => 0
  | .inp => 0
  | .nm _ _ => 0
  | .rg _ _ _ _ => 0
def hgtA : List Fm → Nat
  | [] => 0
  | x :: xs => max x.hgt (hgtA xs)
end
mutual
def Fm.rds : Fm → List Rd
  | .nm c r => [.nm c r]
  | .rg _ c a b => [.rg c a b]
  | .node _ xs => rdsA xs
  | .num _ => []
  | .emp => []
  | .inp => []
def rdsA : List Fm → List Rd
  | [] => []
  | x :: xs => x.rds ++ rdsA xs
end
def wrNm (c r : D) : List Rd → Fm
  | .nm c r :: _ => .nm c r
  | _ => .nm c r
def wrRg (w : WR) (c a b : D) : List Rd → Fm
  | .rg c a b :: _ => .rg w c a b
  | _ => .rg w c a b
theorem wrNm_ex (c r : D) (os : List Rd) : ∃ c' r', wrNm c r os = .nm c' r' := by
  unfold wrNm; split <;> exact ⟨_, _, rfl⟩
theorem wrRg_ex (w : WR) (c a b : D) (os : List Rd) : ∃ c' a' b', wrRg w c a b os = .rg w c' a' b' := by
  unfold wrRg; split <;> exact ⟨_, _, _, rfl⟩
mutual
def Fm.wr : Fm → List Rd → Fm
  | .nm c r, os => wrNm c r os
  | .rg w c a b, os => wrRg w c a b os
  | .node h xs, os => .node h (wrA xs os)
  | .num i, _ => .num i
  | .emp, _ => .emp
  | .inp, _ => .inp
def wrA : List Fm → List Rd → List Fm
  | [], _ => []
  | x :: xs, os => x.wr (os.take x.rds.length) :: wrA xs (os.drop x.rds.length)
end
mutual
def Fm.dep : Fm → Nat
  | .node _ xs => depA xs
  | .num _ => 0
  | .emp => 0
  | .inp => 0
  | .nm _ _ => 0
  | .rg _ _ _ _ => 0
def depA : List Fm → Nat
  | [] => 0
  | x :: xs => max (x.dep + 1) (depA xs)
end
def Hd.lin : Hd → Bool
  | .mn w => w = .sum
  | .tm _ => true
  | _ => false
mutual
def Fm.lin : Fm → Bool
  | .inp => false
  | .rg w _ _ _ => w = .total
  | .node h xs => h.lin && linA xs
  | .num _ => true
  | .emp => true
  | .nm _ _ => true
def linA : List Fm → Bool
  | [] => true
  | x :: xs => x.lin && linA xs
end
mutual
def Fm.hasInp : Fm → Bool
  | .inp => true
  | .node _ xs => hasInpA xs
  | .num _ => false
  | .emp => false
  | .nm _ _ => false
  | .rg _ _ _ _ => false
def hasInpA : List Fm → Bool
  | [] => false
  | x :: xs => x.hasInp || hasInpA xs
end
/-- same sorts of names and ranges -/
def SameS (os ss : List Rd) : Prop := os.map Rd.isRg = ss.map Rd.isRg
theorem SameS.len {os ss : List Rd} (h : SameS os ss) : os.length = ss.length := by
  have z := congrArg List.length h
  rw [List.length_map, List.length_map] at z
  exact z
theorem SameS.split {os as bs : List Rd} (h : SameS os (as ++ bs)) : SameS (os.take as.length) as ∧ SameS (os.drop as.length) bs := by
  unfold SameS at *
  rw [List.map_append] at h
  constructor
  · rw [List.map_take, h, List.take_left' (by rw [List.length_map])]
  · rw [List.map_drop, h, List.drop_left' (by rw [List.length_map])]
theorem sames1 {os : List Rd} {x : Rd} (h : SameS os [x]) : ∃ y, os = [y] ∧ y.isRg = x.isRg := by
  match os, h with
  | [y], h => exact ⟨y, rfl, by simpa [SameS] using h⟩
  | [], h => simp [SameS] at h
  | _ :: _ :: _, h => simp [SameS] at h
mutual
theorem rds_wr : ∀ (f : Fm) (os : List Rd), SameS os f.rds → (f.wr os).rds = os
  | .nm c r, os, h => by
    rw [Fm.rds] at h
    obtain ⟨y, rfl, e⟩ := sames1 h
    cases y with
    | nm c r => rw [Fm.wr, wrNm, Fm.rds]
    | rg c a b => cases e
  | .rg w c a b, os, h => by
    rw [Fm.rds] at h
    obtain ⟨y, rfl, e⟩ := sames1 h
    cases y with
    | nm c r => cases e
    | rg c a b => rw [Fm.wr, wrRg, Fm.rds]
  | .node g xs, os, h => by rw [Fm.rds] at h; rw [Fm.wr, Fm.rds]; exact rdsA_wr xs os h
  | .num i, os, h => by rw [Fm.rds] at h; rw [Fm.wr, Fm.rds]; cases os with | nil => rfl | cons _ _ => simp [SameS] at h
  | .emp, os, h => by rw [Fm.rds] at h; rw [Fm.wr, Fm.rds]; cases os with | nil => rfl | cons _ _ => simp [SameS] at h
  | .inp, os, h => by rw [Fm.rds] at h; rw [Fm.wr, Fm.rds]; cases os with | nil => rfl | cons _ _ => simp [SameS] at h
theorem rdsA_wr : ∀ (xs : List Fm) (os : List Rd), SameS os (rdsA xs) → rdsA (wrA xs os) = os
  | [], os, h => by rw [rdsA] at h; rw [wrA, rdsA]; cases os with | nil => rfl | cons _ _ => simp [SameS] at h
  | x :: xs, os, h => by
    rw [rdsA] at h
    obtain ⟨h1, h2⟩ := h.split
    rw [wrA, rdsA, rds_wr x _ h1, rdsA_wr xs _ h2, List.take_append_drop]
end
mutual
theorem wr_rds : ∀ f : Fm, f.wr f.rds = f
  | .nm c r => by rw [Fm.rds, Fm.wr, wrNm]
  | .rg w c a b => by rw [Fm.rds, Fm.wr, wrRg]
  | .node g xs => by rw [Fm.rds, Fm.wr, wrA_rds xs]
  | .num i => by rw [Fm.wr]
  | .emp => by rw [Fm.wr]
  | .inp => by rw [Fm.wr]
theorem wrA_rds : ∀ xs : List Fm, wrA xs (rdsA xs) = xs
  | [] => by rw [wrA]
  | x :: xs => by rw [rdsA, wrA, List.take_left, List.drop_left, wr_rds x, wrA_rds xs]
end
theorem wr_len (f : Fm) (os : List Rd) (h : SameS os f.rds) : (f.wr os).rds.length = f.rds.length := by rw [rds_wr f os h]; exact h.len
mutual
theorem wr_wr : ∀ (f : Fm) (os ss : List Rd), SameS os f.rds → SameS ss f.rds → (f.wr os).wr ss = f.wr ss
  | .nm c r, os, ss, h, k => by
    rw [Fm.rds] at h k
    obtain ⟨y, rfl, e⟩ := sames1 h
    obtain ⟨z, rfl, e2⟩ := sames1 k
    cases y with
    | rg c a b => cases e
    | nm c r =>
      cases z with
      | rg c a b => cases e2
      | nm c r => rw [Fm.wr, Fm.wr, wrNm, Fm.wr, wrNm, wrNm]
  | .rg w c a b, os, ss, h, k => by
    rw [Fm.rds] at h k
    obtain ⟨y, rfl, e⟩ := sames1 h
    obtain ⟨z, rfl, e2⟩ := sames1 k
    cases y with
    | nm c r => cases e
    | rg c a b =>
      cases z with
      | nm c r => cases e2
      | rg c a b => rw [Fm.wr, Fm.wr, wrRg, Fm.wr, wrRg, wrRg]
  | .node g xs, os, ss, h, k => by rw [Fm.rds] at h k; rw [Fm.wr, Fm.wr, Fm.wr, wrA_wr xs os ss h k]
  | .num i, os, ss, _, _ => by rw [Fm.wr, Fm.wr]
  | .emp, os, ss, _, _ => by rw [Fm.wr, Fm.wr]
  | .inp, os, ss, _, _ => by rw [Fm.wr, Fm.wr]
theorem wrA_wr : ∀ (xs : List Fm) (os ss : List Rd), SameS os (rdsA xs) → SameS ss (rdsA xs) → wrA (wrA xs os) ss = wrA xs ss
  | [], os, ss, _, _ => by rw [wrA, wrA]
  | x :: xs, os, ss, h, k => by
    rw [rdsA] at h k
    obtain ⟨h1, h2⟩ := h.split
    obtain ⟨k1, k2⟩ := k.split
    rw [wrA, wrA, wrA, wr_len x _ h1, wr_wr x _ _ h1 k1, wrA_wr xs _ _ h2 k2]
end
theorem wrA_len : ∀ (xs : List Fm) (os : List Rd), (wrA xs os).length = xs.length
  | [], _ => by rw [wrA]
  | x :: xs, os => by rw [wrA, List.length_cons, wrA_len xs, List.length_cons]
mutual
theorem wr_dep : ∀ (f : Fm) (os : List Rd), (f.wr os).dep = f.dep
  | .nm c r, os => by obtain ⟨_, _, e⟩ := wrNm_ex c r os; rw [Fm.wr, e]; rw [Fm.dep, Fm.dep]
  | .rg w c a b, os => by obtain ⟨_, _, _, e⟩ := wrRg_ex w c a b os; rw [Fm.wr, e]; rw [Fm.dep, Fm.dep]
  | .node g xs, os => by rw [Fm.wr, Fm.dep, Fm.dep, wrA_dep xs os]
  | .num i, os => by rw [Fm.wr]
  | .emp, os => by rw [Fm.wr]
  | .inp, os => by rw [Fm.wr]
theorem wrA_dep : ∀ (xs : List Fm) (os : List Rd), depA (wrA xs os) = depA xs
  | [], os => by rw [wrA]
  | x :: xs, os => by rw [wrA, depA, depA, wr_dep x, wrA_dep xs]
end
mutual
theorem wr_hgt : ∀ (f : Fm) (os : List Rd), (f.wr os).hgt = f.hgt
  | .nm c r, os => by obtain ⟨_, _, e⟩ := wrNm_ex c r os; rw [Fm.wr, e]; rw [Fm.hgt, Fm.hgt]
  | .rg w c a b, os => by obtain ⟨_, _, _, e⟩ := wrRg_ex w c a b os; rw [Fm.wr, e]; rw [Fm.hgt, Fm.hgt]
  | .node g xs, os => by rw [Fm.wr, Fm.hgt, Fm.hgt, wrA_hgt xs os]
  | .num i, os => by rw [Fm.wr]
  | .emp, os => by rw [Fm.wr]
  | .inp, os => by rw [Fm.wr]
theorem wrA_hgt : ∀ (xs : List Fm) (os : List Rd), hgtA (wrA xs os) = hgtA xs
  | [], os => by rw [wrA]
  | x :: xs, os => by rw [wrA, hgtA, hgtA, wr_hgt x, wrA_hgt xs]
end
mutual
theorem wr_lin : ∀ (f : Fm) (os : List Rd), (f.wr os).lin = f.lin
  | .nm c r, os => by obtain ⟨_, _, e⟩ := wrNm_ex c r os; rw [Fm.wr, e]; rw [Fm.lin, Fm.lin]
  | .rg w c a b, os => by obtain ⟨_, _, _, e⟩ := wrRg_ex w c a b os; rw [Fm.wr, e]; rw [Fm.lin, Fm.lin]
  | .node g xs, os => by rw [Fm.wr, Fm.lin, Fm.lin, wrA_lin xs os]
  | .num i, os => by rw [Fm.wr]
  | .emp, os => by rw [Fm.wr]
  | .inp, os => by rw [Fm.wr]
theorem wrA_lin : ∀ (xs : List Fm) (os : List Rd), linA (wrA xs os) = linA xs
  | [], os => by rw [wrA]
  | x :: xs, os => by rw [wrA, linA, linA, wr_lin x, wrA_lin xs]
end
mutual
theorem wr_inp : ∀ (f : Fm) (os : List Rd), (f.wr os).hasInp = f.hasInp
  | .nm c r, os => by obtain ⟨_, _, e⟩ := wrNm_ex c r os; rw [Fm.wr, e]; rw [Fm.hasInp, Fm.hasInp]
  | .rg w c a b, os => by obtain ⟨_, _, _, e⟩ := wrRg_ex w c a b os; rw [Fm.wr, e]; rw [Fm.hasInp, Fm.hasInp]
  | .node g xs, os => by rw [Fm.wr, Fm.hasInp, Fm.hasInp, wrA_inp xs os]
  | .num i, os => by rw [Fm.wr]
  | .emp, os => by rw [Fm.wr]
  | .inp, os => by rw [Fm.wr]
theorem wrA_inp : ∀ (xs : List Fm) (os : List Rd), hasInpA (wrA xs os) = hasInpA xs
  | [], os => by rw [wrA]
  | x :: xs, os => by rw [wrA, hasInpA, hasInpA, wr_inp x, wrA_inp xs]
end
mutual
theorem wr_wf : ∀ (f : Fm) (os : List Rd), f.wf → (f.wr os).wf
  | .nm c r, os, _ => by obtain ⟨_, _, e⟩ := wrNm_ex c r os; rw [Fm.wr, e]; rw [Fm.wf]; trivial
  | .rg w c a b, os, _ => by obtain ⟨_, _, _, e⟩ := wrRg_ex w c a b os; rw [Fm.wr, e]; rw [Fm.wf]; trivial
  | .node g xs, os, h => by
    rw [Fm.wf] at h
    rw [Fm.wr, Fm.wf]
    exact ⟨Hd.fit_len (wrA_len xs os).symm h.1, wrA_wf xs os h.2⟩
  | .num i, os, _ => by rw [Fm.wr, Fm.wf]; trivial
  | .emp, os, _ => by rw [Fm.wr, Fm.wf]; trivial
  | .inp, os, _ => by rw [Fm.wr, Fm.wf]; trivial
theorem wrA_wf : ∀ (xs : List Fm) (os : List Rd), wfA xs → wfA (wrA xs os)
  | [], os, _ => by rw [wrA]; trivial
  | x :: xs, os, h => by
    rw [wfA] at h
    rw [wrA, wfA]
    exact ⟨wr_wf x _ h.1, wrA_wf xs _ h.2⟩
end
end DL

set_option Elab.async false
set_option linter.all false
set_option maxRecDepth 100000
set_option maxHeartbeats 4000000
/-! DLN: a, b = x, constant; loops by what is left; bottom of a recursion; promises over formulas. -/
namespace DL
open PySem PySem.Spec PyProof.Rows L2
def tdParC (i j : Nat) (ta : TD) (d : D) : TDS := fun D δ => ta δ fun r δ1 => D.nx ((δ1.set i r).set j (.dt d))
section
variable {X : Cx} {a b : Expr} {pos : Pos} {ta : TD}
theorem pds_parC {i j : Nat} {x y : Str} {px py pt : Pos} {kt k2 pt2} {v : V} {d : D} (hc : X.calm = true) (hN : X.N.Nodup) (hi : X.N[i]? = some x) (hj : X.N[j]? = some y) (hij : i ≠ j)
    (hx : X.env.scope.names.lookup x = some .local) (hy : X.env.scope.names.lookup y = some .local) (ha : PD X a ta) (hb : PE X b (tC v)) (hd : ∀ G, Dd X.K G v d)
    (hw : swappedStores [.Tuple [.Name x px, .Name y py] kt pt] (.Tuple [a, b] k2 pt2) X.env = pure (some [x, y]))
    (hs : swapsWithSole [.Tuple [.Name x px, .Name y py] kt pt] (.Tuple [a, b] k2 pt2) pos.line X.env = pure false := by rfl)
    (h1 : starEach [a, b] X.env = (false, eval a X.env) :: starEach [b] X.env := by rfl) (h2 : starEach [b] X.env = (false, eval b X.env) :: starEach [] X.env := by rfl) :
    PDS X (.Assign [.Tuple [.Name x px, .Name y py] kt pt] (.Tuple [a, b] k2 pt2) pos) (tdParC i j ta d) := by
  refine ⟨PS.weak (ps_par hc hN hi hj hij hx hy (pa_cons ha.pe (pa_cons hb pa_nil h2) h1) hw hs) fun D σ H ⟨B, H0, G0, δ, G, R, q⟩ => ⟨B, H0, G0, δ, G, R, ha.mono _ _ _ q fun r δ1 q w H1 G1 R1 s1 f1 ok => ?_⟩, fun D D' δ w q => ha.mono _ _ _ q fun r δ1 q => w.nx _ q⟩
  exact ⟨w, v, rfl, q _ _ G1 ((R1.assign ok i).assign (resOk_dt (hd G1)) j)⟩
end
theorem fnx_no {P : Program} {w : World} {K : PySem.W.Frag} {mg : Str → Option Value} {base : Heap} {x : Str} {st : Stmt} {ps : List Str} {n : Nat} {t : TF} (D0 : Dfn K mg x st ps) (no : ∀ rs Q, ¬ t rs Q) (k : Nat) : FnX P w K mg base k x n t := by
  obtain ⟨f, fd, F, hm, hbd⟩ := D0.ex
  have no' : ∀ vs H Q E, spD K n t vs H Q E → False := fun vs H Q E h => by obtain ⟨_, _, _, _, _, _, _, _, z⟩ := h; exact no _ _ z
  exact ⟨⟨f, fd, ps, ⟨fun vs H Q E h => (no' _ _ _ _ h).elim, fun A outer s H args us vs Q E hr he hb hv hs => (no' _ _ _ _ hs).elim⟩, hm, F.kp, hbd⟩, fun _ _ _ q _ => (no _ _ q).elim, fun _ _ q => (no _ _ q).elim⟩
/-- a loop by what is left of what is walked -/
theorem forD_L {g : TDG} {tb : TDS} {D : EndsD} (Inv : List DL.D → List Sl → Prop)
    (step : ∀ d ds δ (N : List Sl → Prop), Inv (d :: ds) δ → (∀ δ', Inv ds δ' → N δ') → g d δ fun δ1 => tb { D with nx := N, ct := N, bk := D.nx } δ1) (done : ∀ δ, Inv [] δ → D.nx δ) : ∀ (ds : List DL.D) (δ : List Sl), Inv ds δ → forD g tb D ds δ
  | [], δ, h => done δ h
  | d :: ds, δ, h => step d ds δ _ h (fun δ' q => forD_L Inv step done ds δ' q)
/-- one argument, a formula -/
def tFm (pre : Fm → Prop) (res : Fm → Sl) : TF := fun rs Q => ∃ f : Fm, rs = [.dt f.d] ∧ pre f ∧ Q (res f)
theorem mono_tFm {pre : Fm → Prop} {res : Fm → Sl} : MonoF (tFm pre res) := fun rs Q Q' ⟨f, e, p, q⟩ w => ⟨f, e, p, w _ q⟩
theorem len_tFm {pre : Fm → Prop} {res : Fm → Sl} : ∀ rs Q, tFm pre res rs Q → rs.length = 1 := fun rs Q ⟨f, e, _⟩ => by rw [e]; rfl
/-- two arguments, by a relation to what is wanted -/
def tR2 (R : Sl → Sl → Sl → Prop) : TF := fun rs Q => ∃ a b r, rs = [a, b] ∧ R a b r ∧ Q r
theorem mono_tR2 {R : Sl → Sl → Sl → Prop} : MonoF (tR2 R) := fun rs Q Q' ⟨a, b, r, e, p, q⟩ w => ⟨a, b, r, e, p, w _ q⟩
theorem len_tR2 {R : Sl → Sl → Sl → Prop} : ∀ rs Q, tR2 R rs Q → rs.length = 2 := fun rs Q ⟨a, b, r, e, _⟩ => by rw [e]; rfl
mutual
def Fm.sz : Fm → Nat
  | .node _ xs => szA xs + 1
  | .num _ => 1
  | .emp => 1
  | .inp => 1
  | .nm _ _ => 1
  | .rg _ _ _ _ => 1
def szA : List Fm → Nat
  | [] => 0
  | x :: xs => x.sz + szA xs
end
mutual
theorem rds_sz : ∀ f : Fm, f.rds.length ≤ f.sz
  | .node _ xs => by rw [Fm.rds, Fm.sz]; have := rdsA_sz xs; omega
  | .num _ => by rw [Fm.rds, Fm.sz]; decide
  | .emp => by rw [Fm.rds, Fm.sz]; decide
  | .inp => by rw [Fm.rds, Fm.sz]; decide
  | .nm _ _ => by rw [Fm.rds, Fm.sz]; exact Nat.le_refl 1
  | .rg _ _ _ _ => by rw [Fm.rds, Fm.sz]; exact Nat.le_refl 1
theorem rdsA_sz : ∀ xs : List Fm, (rdsA xs).length ≤ szA xs
  | [] => by rw [rdsA, szA]; exact Nat.le_refl 0
  | x :: xs => by rw [rdsA, szA, List.length_append]; have := rds_sz x; have := rdsA_sz xs; omega
end
theorem sz_pos (f : Fm) : 1 ≤ f.sz := by cases f <;> rw [Fm.sz] <;> omega
theorem szA_len : ∀ xs : List Fm, xs.length ≤ szA xs
  | [] => Nat.zero_le _
  | x :: xs => by rw [szA, List.length_cons]; have := sz_pos x; have := szA_len xs; omega
mutual
theorem wr_sz : ∀ (f : Fm) (os : List Rd), (f.wr os).sz = f.sz
  | .nm c r, os => by obtain ⟨_, _, e⟩ := wrNm_ex c r os; rw [Fm.wr, e]; rw [Fm.sz, Fm.sz]
  | .rg w c a b, os => by obtain ⟨_, _, _, e⟩ := wrRg_ex w c a b os; rw [Fm.wr, e]; rw [Fm.sz, Fm.sz]
  | .node g xs, os => by rw [Fm.wr, Fm.sz, Fm.sz, wrA_sz xs os]
  | .num i, os => by rw [Fm.wr]
  | .emp, os => by rw [Fm.wr]
  | .inp, os => by rw [Fm.wr]
theorem wrA_sz : ∀ (xs : List Fm) (os : List Rd), szA (wrA xs os) = szA xs
  | [], os => by rw [wrA]
  | x :: xs, os => by rw [wrA, szA, szA, wr_sz x, wrA_sz xs]
end
/-- small enough to be walked -/
structure Fm.Sm (n : Nat) (f : Fm) : Prop where
  wf : f.wf
  hgt : f.hgt < n
  sz : f.sz ≤ 100000
theorem smA {n : Nat} : ∀ {xs : List Fm}, wfA xs → hgtA xs < n → szA xs ≤ 100000 → ∀ x ∈ xs, x.Sm n
  | x :: xs, w, h, s, y, hy => by
    rw [wfA] at w; rw [hgtA] at h; rw [szA] at s
    rcases List.mem_cons.mp hy with rfl | hy
    · exact ⟨w.1, by omega, by omega⟩
    · exact smA w.2 (by omega) (by omega) y hy
theorem Fm.Sm.parts {n : Nat} {f : Fm} (h : f.Sm (n + 1)) : ∀ x ∈ f.parts, x.Sm n := by
  cases f with
  | node g xs =>
    have w := h.wf; have t := h.hgt; have s := h.sz
    rw [Fm.wf] at w; rw [Fm.hgt] at t; rw [Fm.sz] at s
    exact smA (xs := xs) w.2 (by omega) (by omega)
  | _ => exact fun x hx => (List.not_mem_nil hx).elim
theorem parts_len {f : Fm} : f.parts.length ≤ f.sz := by
  cases f with
  | node g xs => show xs.length ≤ _; rw [Fm.sz]; have := szA_len xs; omega
  | _ => exact Nat.zero_le _
theorem rds_parts {f : Fm} (h : ∀ c r, f ≠ .nm c r) (k : ∀ w c a b, f ≠ .rg w c a b) : f.rds = rdsA f.parts := by
  cases f with
  | nm c r => exact absurd rfl (h c r)
  | rg w c a b => exact absurd rfl (k w c a b)
  | node g xs => rw [Fm.rds]; rfl
  | _ => rw [Fm.rds]; rfl
end DL

set_option Elab.async false
set_option linter.all false
set_option maxRecDepth 100000
set_option maxHeartbeats 4000000
/-! DLO: names and ranges as data: plain facts. -/
namespace DL
open PySem PySem.Spec PyProof.Rows L2
/-! ### what the defs come to -/
def isInt : D → Bool
  | .int _ => true
  | _ => false
def isPart : D → Bool
  | .tup [.str k] => decide (k = "lost")
  | .tup [.str k, .int i] => decide (k = "by") || (decide (k = "at") && decide (0 ≤ i))
  | _ => false
def isRow : D → Bool
  | .tup [.str k] => inV (.str k) [.str "head", .str "foot"]
  | .tup [.str k, .int i] => decide (k = "by") || (decide (k = "last") && decide (0 ≤ i))
  | _ => false
def isName : D → Bool
  | .tup [.str k, c, r] => decide (k = "name") && (isPart c && isRow r)
  | _ => false
def isLim (d : D) : Bool := isNon d || isInt d
def isRange : D → Bool
  | .tup [.str k, c, a, b] => decide (k = "rows") && (isPart c && (isLim a && isLim b))
  | _ => false
abbrev Pl : D → Prop := fun d => plainD d = true
theorem ne_len {xs : List D} {n : Nat} (h : xs.length ≠ n) : (!PyData.eqv (.int (xs.length : Nat)) (.int (n : Nat))) = true := by
  show (!((xs.length : Int) == (n : Int))) = true
  rw [Bool.not_eq_true', beq_eq_false_iff_ne]
  omega
theorem name_len {xs : List D} (h : xs.length ≠ 3) : isName (.tup xs) = false := by
  unfold isName
  split
  · rename_i e; cases e; exact absurd rfl h
  · rfl
theorem range_len {xs : List D} (h : xs.length ≠ 4) : isRange (.tup xs) = false := by
  unfold isRange
  split
  · rename_i e; cases e; exact absurd rfl h
  · rfl
/-! column_of, with_column -/
/-- a name or range by its parts: word, column part, the rest -/
def isCol : D → Bool
  | .tup [.str k] => decide (k = "lost")
  | .tup [.str k, .int _] => decide (k = "by") || decide (k = "at")
  | _ => false
def colOf : D → Int → D
  | .tup [.str k, .int i], c => if decide (k = "at") = true then .int i else .int (c + i)
  | _, _ => .non
/-- a name or a range: three or four items, the second a column part -/
def readB : D → Bool
  | .tup (_ :: p :: ds) => isCol p && decide (ds.length ≤ 2)
  | _ => false
def partOf : D → D
  | .tup (_ :: p :: _) => p
  | _ => .non
def withCol : D → D → D
  | .tup (k :: _ :: ds), p => .tup (k :: p :: ds)
  | _, _ => .non
def tCol : TF := fun rs Q => match rs with
  | [.dt d, .dt (.int c)] => readB d = true ∧ Q (.dt (colOf (partOf d) c))
  | _ => False
theorem mono_tCol : MonoF tCol := fun rs Q Q' q w => by
  unfold tCol at q ⊢
  split at q
  · exact ⟨q.1, w _ q.2⟩
  · exact q
theorem len_tCol : ∀ rs Q, tCol rs Q → rs.length = 2 := fun rs Q q => by
  unfold tCol at q
  split at q
  · rfl
  · exact q.elim
theorem tCol_in {rs : List Sl} {Q : Sl → Prop} (h : tCol rs Q) : ∃ d c, rs = [.dt d, .dt (.int c)] ∧ readB d = true ∧ Q (.dt (colOf (partOf d) c)) := by
  unfold tCol at h
  split at h
  · exact ⟨_, _, rfl, h⟩
  · exact h.elim
theorem col_cases {p : D} (h : isCol p = true) : p = .tup [.str "lost"] ∨ (∃ i, p = .tup [.str "by", .int i]) ∨ ∃ i, p = .tup [.str "at", .int i] := by
  unfold isCol at h
  split at h
  · rename_i k; rw [of_decide_eq_true h]; exact .inl rfl
  · rename_i k i
    rw [Bool.or_eq_true] at h
    rcases h with h | h
    · rw [of_decide_eq_true h]; exact .inr (.inl ⟨i, rfl⟩)
    · rw [of_decide_eq_true h]; exact .inr (.inr ⟨i, rfl⟩)
  · cases h
theorem read_cases {d : D} (h : readB d = true) : ∃ k p ds, d = .tup (k :: p :: ds) ∧ isCol p = true ∧ ds.length ≤ 2 := by
  unfold readB at h
  split at h
  · rename_i k p ds
    rw [Bool.and_eq_true] at h
    exact ⟨k, p, ds, rfl, h.1, of_decide_eq_true h.2⟩
  · cases h
theorem cut2 {α : Type} {a b : α} {ds : List α} : cutL (a :: b :: ds) (some 2) none = ds := by
  unfold cutL
  rw [show (some (2 : Int)) = some ((2 : Nat) : Int) from rfl, HT.sIx_nat, HT.sIx_none, Nat.min_eq_left (by simp only [List.length_cons]; omega)]
  show List.take (ds.length + 1 + 1 - 2) ds = ds
  rw [show ds.length + 1 + 1 - 2 = ds.length by omega, List.take_length]

theorem le_szL {n : Nat} (h : Nat.ble n 1000 = true) : n ≤ sizeLine := Nat.le_trans (Nat.le_of_ble_eq_true h) (by decide)
abbrev PF (P : Program) (w : World) (K : PySem.W.Frag) (mg : Str → Option Value) (base : Heap) (k : Nat) (x : Str) (f : D → Sl) : Prop := FnX P w K mg base k x 1 (tf1 Pl f)
def isNum : D → Bool
  | .int i => decide (-(1000000000000 : Int) ≤ i) && decide (i ≤ 1000000000000)
  | _ => false
/-! ### comprehensions over things of any type -/
theorem wipeD_len : ∀ (vs : List Nat) (δ : List Sl), (wipeD δ vs).length = δ.length
  | [], δ => rfl
  | v :: vs, δ => by
    unfold wipeD
    simp [wipeD_len vs δ]
theorem hideOwn_len (δ : List Sl) : (hideOwn δ).length = δ.length := by unfold hideOwn; rw [List.length_map]
theorem comp_id {j : Nat} {δw : List Sl} (hj : j < δw.length) : ∀ (ds acc : List D) (Q : List D → Prop), Q (acc ++ ds) → compD (gdName j) tdYes (tdVar j) δw ds acc Q
  | [], acc, Q, h => by rw [List.append_nil] at h; exact h
  | d :: ds, acc, Q, h => by
    refine ⟨rfl, ?_⟩
    rw [if_pos rfl]
    unfold tdVar
    rw [List.getElem?_set_self hj]
    refine ⟨rfl, ?_⟩
    exact comp_id hj ds _ Q (by rw [List.append_assoc]; exact h)
theorem comp_map {α : Type} {i : Nat} {te : TD} {δw : List Sl} (e f : α → D) : ∀ (xs : List α) (acc : List D) (Q : List D → Prop),
    (∀ x ∈ xs, ∀ (C : Sl → List Sl → Prop), (∀ r, fz r = some (f x) → C r (δw.set i (.dt (e x)))) → te (δw.set i (.dt (e x))) C) →
    Q (acc ++ xs.map f) → compD (gdName i) tdYes te δw (xs.map e) acc Q
  | [], acc, Q, _, h => by rw [List.map_nil, List.append_nil] at h; exact h
  | x :: xs, acc, Q, he, h => by
    refine ⟨rfl, ?_⟩
    rw [if_pos rfl]
    refine he x List.mem_cons_self _ fun r hr => ⟨rfl, ?_⟩
    rw [hr]
    exact comp_map e f xs _ Q (fun y hy => he y (List.mem_cons_of_mem _ hy)) (by rw [List.append_assoc]; exact h)
theorem comp2_flat {α : Type} {i j : Nat} {ti1 : TDI} {δw : List Sl} {vs1 : List Nat} (e : α → D) (f : α → List D) (hj : j < δw.length) : ∀ (xs : List α) (acc : List D) (Q : List D → Prop),
    (∀ x ∈ xs, ∀ (C : List D → List Sl → Prop), C (f x) (δw.set i (.dt (e x))) → ti1 (δw.set i (.dt (e x))) C) → acc.length + (xs.flatMap f).length ≤ sizeLine →
    Q (acc ++ xs.flatMap f) → compD2 (gdName i) tdYes ti1 (gdName j) tdYes (tdVar j) δw vs1 (xs.map e) acc Q
  | [], acc, Q, _, _, h => by rw [List.flatMap_nil, List.append_nil] at h; exact h
  | x :: xs, acc, Q, he, hz, h => by
    rw [List.flatMap_cons, List.length_append] at hz
    refine ⟨rfl, ?_⟩
    rw [if_pos rfl]
    refine he x List.mem_cons_self _ ⟨rfl, by omega, ?_⟩
    refine comp_id (by rw [wipeD_len, hideOwn_len, List.length_set]; exact hj) _ _ _ ?_
    refine comp2_flat e f hj xs _ Q (fun y hy => he y (List.mem_cons_of_mem _ hy)) (by rw [List.length_append]; omega) ?_
    rw [List.append_assoc]; exact h
/-! ### more of formulas -/
def Fm.withP : Fm → List Fm → Fm
  | .node g _, ys => .node g ys
  | .num i, _ => .num i
  | .emp, _ => .emp
  | .inp, _ => .inp
  | .nm c r, _ => .nm c r
  | .rg w c a b, _ => .rg w c a b
theorem rdsA_flat : ∀ xs : List Fm, (rdsA xs).map Rd.d = xs.flatMap fun x => x.rds.map Rd.d
  | [] => by rw [rdsA]; rfl
  | x :: xs => by rw [rdsA, List.map_append, rdsA_flat xs, List.flatMap_cons]
theorem dep_max {xs : List Fm} {m : Int} (h : m ∈ (0 : Int) :: xs.map (fun x => 1 + (x.dep : Int))) (k : ∀ n ∈ (0 : Int) :: xs.map (fun x => 1 + (x.dep : Int)), n ≤ m) : m = (depA xs : Int) := by
  have h1 : ∀ ys : List Fm, ∀ n ∈ (0 : Int) :: ys.map (fun x => 1 + (x.dep : Int)), n ≤ (depA ys : Int) := by
    intro ys
    induction ys with
    | nil => intro n hn; rw [List.map_nil, List.mem_singleton] at hn; subst hn; rw [depA]; exact Int.le_refl _
    | cons y ys ih =>
      intro n hn
      rw [depA]
      rcases List.mem_cons.mp hn with rfl | hn
      · omega
      · rcases List.mem_cons.mp hn with rfl | hn
        · show 1 + (y.dep : Int) ≤ _; omega
        · have := ih n (List.mem_cons_of_mem _ hn); omega
  have h2 : ∀ ys : List Fm, (depA ys : Int) ∈ (0 : Int) :: ys.map (fun x => 1 + (x.dep : Int)) := by
    intro ys
    induction ys with
    | nil => rw [depA]; exact List.mem_cons_self
    | cons y ys ih =>
      rw [depA]
      by_cases hc : depA ys ≤ y.dep + 1
      · rw [Nat.max_eq_left hc]
        refine List.mem_cons_of_mem _ ?_
        rw [List.map_cons]
        refine List.mem_cons.mpr (.inl ?_)
        push_cast; omega
      · rw [Nat.max_eq_right (by omega)]
        rcases List.mem_cons.mp ih with z | z
        · omega
        · exact List.mem_cons_of_mem _ (List.mem_cons_of_mem _ z)
  have a := h1 xs m h
  have b := k _ (h2 xs)
  omega
theorem linA_all : ∀ xs : List Fm, (xs.map Fm.lin).all id = linA xs
  | [] => by rw [linA]; rfl
  | x :: xs => by rw [linA, List.map_cons, List.all_cons, linA_all xs]; rfl
theorem inpA_any : ∀ xs : List Fm, (xs.map Fm.hasInp).any id = hasInpA xs
  | [] => by rw [hasInpA]; rfl
  | x :: xs => by rw [hasInpA, List.map_cons, List.any_cons, inpA_any xs]; rfl
theorem inp_parts (f : Fm) (h : f ≠ .inp) : f.hasInp = hasInpA f.parts := by
  cases f <;> first | exact absurd rfl h | (rw [Fm.hasInp]; rfl)
theorem dep_parts (f : Fm) : f.dep = depA f.parts := by
  cases f <;> (rw [Fm.dep]; rfl)
/-! ### what fits -/
def Rd.ok : Rd → Prop
  | .nm c r => isPart c = true ∧ isRow r = true
  | .rg c a b => isPart c = true ∧ isLim a = true ∧ isLim b = true
def rowW : D → Str
  | .tup (.str w :: _) => w
  | _ => ""
def Rd.fits : Rd → Str → Bool
  | .nm _ r, p => decide (rowW r = "head") || (decide (rowW r = "by") && decide (p = "body") || inV (.str (rowW r)) [.str "foot", .str "last"] && decide (p = "foot"))
  | .rg _ a b, p => decide (p = "body") || decide (p = "foot") && (isNon a && isNon b)
def Fm.fits : Fm → Str → Bool
  | .inp, p => inV (.str p) [.str "head", .str "body"]
  | f, p => !f.hasInp && f.rds.all fun r => r.fits p
theorem row_cases {r : D} (h : isRow r = true) : (∃ w, r = .tup [.str w] ∧ inV (.str w) [.str "head", .str "foot"] = true) ∨ ∃ w i, r = .tup [.str w, .int i] ∧ (w = "by" ∨ w = "last" ∧ 0 ≤ i) := by
  unfold isRow at h
  split at h
  · exact .inl ⟨_, rfl, h⟩
  · rename_i k i
    refine .inr ⟨k, i, rfl, ?_⟩
    rw [Bool.or_eq_true, Bool.and_eq_true] at h
    rcases h with h | h
    · exact .inl (of_decide_eq_true h)
    · exact .inr ⟨of_decide_eq_true h.1, of_decide_eq_true h.2⟩
  · cases h
theorem part_cases {c : D} (h : isPart c = true) : c = .tup [.str "lost"] ∨ (∃ i, c = .tup [.str "by", .int i]) ∨ ∃ i, c = .tup [.str "at", .int i] ∧ 0 ≤ i := by
  unfold isPart at h
  split at h
  · rw [of_decide_eq_true h]; exact .inl rfl
  · rename_i k i
    rw [Bool.or_eq_true, Bool.and_eq_true] at h
    rcases h with h | h
    · rw [of_decide_eq_true h]; exact .inr (.inl ⟨i, rfl⟩)
    · rw [of_decide_eq_true h.1]; exact .inr (.inr ⟨i, rfl, of_decide_eq_true h.2⟩)
  · cases h
theorem lim_cases {d : D} (h : isLim d = true) : d = .non ∨ ∃ i, d = .int i := by
  cases d <;> first | exact .inl rfl | exact .inr ⟨_, rfl⟩ | cases h
theorem part_plain {c : D} (h : isPart c = true) : plainD c = true := by
  rcases part_cases h with rfl | ⟨i, rfl⟩ | ⟨i, rfl, _⟩ <;> rfl
theorem row_plain {c : D} (h : isRow c = true) : plainD c = true := by
  rcases row_cases h with ⟨w, rfl, _⟩ | ⟨w, i, rfl, _⟩ <;> rfl
theorem lim_plain {c : D} (h : isLim c = true) : plainD c = true := by
  rcases lim_cases h with rfl | ⟨i, rfl⟩ <;> rfl
theorem cutL_nat {α : Type} {xs : List α} {a b : Nat} : cutL xs (some (a : Int)) (some (b : Int)) = (xs.drop (min a xs.length)).take (min b xs.length - min a xs.length) := by
  unfold cutL
  rw [HT.sIx_nat, HT.sIx_nat]
def Hd.ok : Hd → Prop
  | .tm i => isNum (.int i) = true
  | _ => True
mutual
/-- a formula by its form -/
def Fm.ok : Fm → Prop
  | .num i => isNum (.int i) = true
  | .emp => True
  | .inp => True
  | .nm c r => Rd.ok (.nm c r)
  | .rg _ c a b => Rd.ok (.rg c a b)
  | .node h xs => h.ok ∧ okA xs
def okA : List Fm → Prop
  | [] => True
  | x :: xs => x.ok ∧ okA xs
end
theorem okA_mem : ∀ {xs : List Fm}, okA xs → ∀ x ∈ xs, x.ok
  | x :: xs, h, y, hy => by
    rw [okA] at h
    rcases List.mem_cons.mp hy with rfl | hy
    · exact h.1
    · exact okA_mem h.2 y hy
theorem hdD_plain {g : Hd} {ds : List D} (h : plainA ds = true) : plainD (hdD g ds) = true := by
  cases g with
  | mn w => show (true && (plainA ds && true)) = true; rw [h]; rfl
  | tm i => show (true && (true && plainA ds)) = true; rw [h]; rfl
  | ov => show (true && plainA ds) = true; rw [h]; rfl
  | cs s =>
    cases ds with
    | nil => rfl
    | cons d ds =>
      obtain ⟨h1, h2⟩ := plain_cons h
      show (true && (plainD d && (true && plainA ds))) = true
      rw [h1, h2]; rfl
mutual
theorem ok_plain : ∀ f : Fm, f.ok → plainD f.d = true
  | .num i, _ => by rw [Fm.d]; rfl
  | .emp, _ => by rw [Fm.d]; rfl
  | .inp, _ => by rw [Fm.d]; rfl
  | .nm c r, h => by
    rw [Fm.ok] at h
    rw [Fm.d]
    show (true && (plainD c && (plainD r && true))) = true
    rw [part_plain h.1, row_plain h.2]; rfl
  | .rg w c a b, h => by
    rw [Fm.ok] at h
    rw [Fm.d]
    show (true && ((true && (plainD c && (plainD a && (plainD b && true)))) && true)) = true
    rw [part_plain h.1, lim_plain h.2.1, lim_plain h.2.2]; rfl
  | .node g xs, h => by rw [Fm.ok] at h; rw [Fm.d]; exact hdD_plain (okA_plain xs h.2)
theorem okA_plain : ∀ xs : List Fm, okA xs → plainA (fdA xs) = true
  | [], _ => by rw [fdA]; rfl
  | x :: xs, h => by
    rw [okA] at h
    rw [fdA]
    show (plainD x.d && plainA (fdA xs)) = true
    rw [ok_plain x h.1, okA_plain xs h.2]; rfl
end
theorem all_true : ∀ n : Nat, (List.replicate n true).all id = true
  | 0 => rfl
  | n + 1 => by rw [List.replicate_succ, List.all_cons, all_true n]; rfl
end DL

set_option Elab.async false
set_option linter.all false
set_option maxRecDepth 100000
set_option maxHeartbeats 4000000
/-! DLP: what laws draw: names, ranges, formulas for a place. -/
namespace DL
open PySem PySem.Spec PyProof.Rows L2
inductive IsPl : Str → Prop
  | head : IsPl "head"
  | body : IsPl "body"
  | foot : IsPl "foot"
theorem bs_str {x : Str} (h : bsB 100 0 (.str x) = true) : Bs 100 0 (.str x) := bsB_ok h
theorem bs_i {i : Int} (h : i.natAbs < 100) : Bs 100 0 (.int i) := (bs_int (Nat.lt_of_lt_of_le h (by decide))).mono (by decide) (by decide)
theorem bs_num {i : Int} (h : isNum (.int i) = true) : Bs 100 0 (.int i) := by
  have h' : (decide (-(1000000000000 : Int) ≤ i) && decide (i ≤ 1000000000000)) = true := h
  rw [Bool.and_eq_true] at h'
  have h1 := of_decide_eq_true h'.1
  have h2 := of_decide_eq_true h'.2
  refine (bs_int (Nat.lt_of_lt_of_le (by omega : i.natAbs < 1000000000001) (by decide))).mono (by decide) (by decide)
theorem bs_cons {c1 c2 h : Nat} {d : D} {ds : List D} (a : Bs c1 h d) (b : Bs c2 (h + 1) (.tup ds)) : Bs (c1 + c2 + 2) (h + 1) (.tup (d :: ds)) := by
  obtain ⟨a1, a2, a3, a4, a5, a6, a7⟩ := a
  obtain ⟨b1, b2, b3, b4, b5, b6, b7⟩ := b
  refine ⟨?_, ⟨a2, b2⟩, ?_, ?_, ?_, ?_, ?_⟩
  · show (plainD d && plainA ds) = true
    rw [a1, show plainA ds = true from b1]; rfl
  · show costD d + 2 + costA ds + 3 ≤ c1 + c2 + 2
    have : costA ds + 3 ≤ c2 := b3
    omega
  · show max (py d).depth (PyData.depthAll (pyA ds)) + 1 ≤ h + 1
    have : PyData.depthAll (pyA ds) + 1 ≤ h + 1 := b4
    omega
  · show ((py d).hasDict || PyData.hasDictAll (pyA ds)) = false
    rw [a5, show PyData.hasDictAll (pyA ds) = false from b5]; rfl
  · show (noL d && noLA ds) = true
    rw [a6, show noLA ds = true from b6]; rfl
  · show ((py d).canLay0 && PyData.canLayAll0 (pyA ds)) = true
    rw [a7, show PyData.canLayAll0 (pyA ds) = true from b7]; rfl
theorem bs_nil (h : Nat) : Bs 3 (h + 1) (.tup []) := ⟨rfl, trivial, Nat.le_refl _, (by show 0 + 1 ≤ h + 1; omega), rfl, rfl, rfl⟩
mutual
/-- its numbers are small -/
def sm100 : D → Bool
  | .int i => decide (i.natAbs < 100)
  | .tup xs => sm100A xs
  | .lst _ => false
  | .dK _ _ => false
  | .dT _ _ => false
  | .ins _ _ _ => false
  | .non => true
  | .bl _ => true
  | .str _ => true
def sm100A : List D → Bool
  | [] => true
  | x :: xs => sm100 x && sm100A xs
end
/-- a name or a range that a law draws for a place -/
structure RdP (p : Str) (x : Rd) : Prop where
  ok : x.ok
  fits : x.fits p = true
  bs : Bs 1000 2 x.d
  sm : sm100 x.d = true
def Sf : Nat → Nat
  | 0 => 1
  | n + 1 => 6 * Sf n + 1
def Cf : Nat → Nat
  | 0 => 2000
  | n + 1 => 6 * (Cf n + 2) + 300
mutual
/-- as a law draws it: by its form -/
def Fm.dr (p : Str) : Fm → Prop
  | .num i => isNum (.int i) = true
  | .emp => True
  | .inp => False
  | .nm c r => RdP p (.nm c r)
  | .rg _ c a b => RdP p (.rg c a b)
  | .node h xs => h.ok ∧ h.fit xs ∧ xs.length ≤ 6 ∧ drA p xs
def drA (p : Str) : List Fm → Prop
  | [] => True
  | x :: xs => x.dr p ∧ drA p xs
end
structure Gf (p : Str) (n : Nat) (f : Fm) : Prop where
  dr : f.dr p
  ok : f.ok
  wf : f.wf
  ni : f.hasInp = false
  hgt : f.hgt ≤ n
  rds : ∀ r ∈ f.rds, RdP p r
  sz : f.sz ≤ Sf n
  bs : Bs (Cf n) (2 * n + 3) f.d
theorem Sf_mono : ∀ {m n : Nat}, m ≤ n → Sf m ≤ Sf n := by
  intro m n h
  induction h with
  | refl => exact Nat.le_refl _
  | step _ ih => show _ ≤ 6 * Sf _ + 1; omega
theorem Cf_mono : ∀ {m n : Nat}, m ≤ n → Cf m ≤ Cf n := by
  intro m n h
  induction h with
  | refl => exact Nat.le_refl _
  | step _ ih => show _ ≤ 6 * (Cf _ + 2) + 300; omega
theorem Cf_base (n : Nat) : 2000 ≤ Cf n := Cf_mono (Nat.zero_le n)
theorem Gf.mono {p : Str} {m n : Nat} {f : Fm} (h : Gf p m f) (e : m ≤ n) : Gf p n f :=
  ⟨h.dr, h.ok, h.wf, h.ni, Nat.le_trans h.hgt e, h.rds, Nat.le_trans h.sz (Sf_mono e), h.bs.mono (Cf_mono e) (by omega)⟩
theorem gf_num {p : Str} {i : Int} (h : isNum (.int i) = true) : Gf p 0 (.num i) := by
  refine ⟨by rw [Fm.dr]; exact h, by rw [Fm.ok]; exact h, by rw [Fm.wf]; trivial, by rw [Fm.hasInp], by rw [Fm.hgt]; exact Nat.le_refl _, by rw [Fm.rds]; exact fun r hr => (List.not_mem_nil hr).elim, by rw [Fm.sz]; decide, ?_⟩
  rw [Fm.d]
  exact (bs_cons (bs_str (by decide +kernel)) (bs_cons (bs_num h) (bs_nil 0))).mono (by decide) (by decide)
theorem gf_emp {p : Str} : Gf p 0 .emp := by
  refine ⟨by rw [Fm.dr]; trivial, by rw [Fm.ok]; trivial, by rw [Fm.wf]; trivial, by rw [Fm.hasInp], by rw [Fm.hgt]; exact Nat.le_refl _, by rw [Fm.rds]; exact fun r hr => (List.not_mem_nil hr).elim, by rw [Fm.sz]; decide, ?_⟩
  rw [Fm.d]
  exact (bs_cons (bs_str (by decide +kernel)) (bs_nil 0)).mono (by decide) (by decide)
theorem gf_nm {p : Str} {c r : D} (h : RdP p (.nm c r)) : Gf p 0 (.nm c r) := by
  refine ⟨by rw [Fm.dr]; exact h, by rw [Fm.ok]; exact h.ok, by rw [Fm.wf]; trivial, by rw [Fm.hasInp], by rw [Fm.hgt]; exact Nat.le_refl _, ?_, by rw [Fm.sz]; decide, ?_⟩
  · rw [Fm.rds]; intro x hx; rw [List.mem_singleton.mp hx]; exact h
  · rw [Fm.d]; exact h.bs.mono (by decide) (by decide)
theorem gf_rg {p : Str} {w : WR} {c a b : D} (h : RdP p (.rg c a b)) : Gf p 0 (.rg w c a b) := by
  refine ⟨by rw [Fm.dr]; exact h, by rw [Fm.ok]; exact h.ok, by rw [Fm.wf]; trivial, by rw [Fm.hasInp], by rw [Fm.hgt]; exact Nat.le_refl _, ?_, by rw [Fm.sz]; decide, ?_⟩
  · rw [Fm.rds]; intro x hx; rw [List.mem_singleton.mp hx]; exact h
  · rw [Fm.d]
    have z : Bs 100 0 (.str w.s) := by cases w <;> exact bs_str (by decide +kernel)
    exact (bs_cons (z.mono (Nat.le_refl _) (by decide : (0 : Nat) ≤ 2)) (bs_cons (h := 2) h.bs (bs_nil 2))).mono (by decide) (by decide)
theorem gfA {p : Str} {n : Nat} : ∀ {xs : List Fm}, (∀ x ∈ xs, Gf p n x) → drA p xs ∧ okA xs ∧ wfA xs ∧ hasInpA xs = false ∧ hgtA xs ≤ n ∧ (∀ r ∈ rdsA xs, RdP p r) ∧ szA xs ≤ xs.length * Sf n ∧ Bs (xs.length * (Cf n + 2) + 3) (2 * n + 4) (.tup (fdA xs))
  | [], _ => by
    refine ⟨by rw [drA]; trivial, by rw [okA]; trivial, by rw [wfA]; trivial, by rw [hasInpA], by rw [hgtA]; exact Nat.zero_le _, by rw [rdsA]; exact fun r hr => (List.not_mem_nil hr).elim, by rw [szA]; exact Nat.zero_le _, ?_⟩
    rw [fdA]
    exact (bs_nil 0).mono (by simp) (by omega)
  | x :: xs, h => by
    obtain ⟨hd, h1, h2, h3, h4, h5, h6, h7⟩ := gfA fun y hy => h y (List.mem_cons_of_mem _ hy)
    have g := h x List.mem_cons_self
    refine ⟨by rw [drA]; exact ⟨g.dr, hd⟩, by rw [okA]; exact ⟨g.ok, h1⟩, by rw [wfA]; exact ⟨g.wf, h2⟩, by rw [hasInpA, g.ni, h3]; rfl, ?_, ?_, ?_, ?_⟩
    · rw [hgtA]; have := g.hgt; omega
    · rw [rdsA]; intro r hr
      rcases List.mem_append.mp hr with hr | hr
      · exact g.rds r hr
      · exact h5 r hr
    · rw [szA, List.length_cons, Nat.succ_mul]; have := g.sz; omega
    · rw [fdA]
      refine (bs_cons g.bs h7).mono ?_ (Nat.le_refl _)
      rw [List.length_cons, Nat.succ_mul]; omega
theorem gf_node {p : Str} {n : Nat} {g : Hd} {xs : List Fm} (h : ∀ x ∈ xs, Gf p n x) (hl : xs.length ≤ 6) (hf : g.fit xs) (ho : g.ok) : Gf p (n + 1) (.node g xs) := by
  obtain ⟨hd, h1, h2, h3, h4, h5, h6, h7⟩ := gfA h
  have m1 : xs.length * Sf n ≤ 6 * Sf n := Nat.mul_le_mul_right _ hl
  have m2 : xs.length * (Cf n + 2) ≤ 6 * (Cf n + 2) := Nat.mul_le_mul_right _ hl
  have h0 : Bs 100 0 (.str "case") := bs_str (by decide +kernel)
  refine ⟨by rw [Fm.dr]; exact ⟨ho, hf, hl, hd⟩, by rw [Fm.ok]; exact ⟨ho, h1⟩, by rw [Fm.wf]; exact ⟨hf, h2⟩, by rw [Fm.hasInp, h3], by rw [Fm.hgt]; omega, by rw [Fm.rds]; exact h5, ?_, ?_⟩
  · rw [Fm.sz]; show _ ≤ 6 * Sf n + 1; omega
  · rw [Fm.d]
    show Bs (6 * (Cf n + 2) + 300) (2 * (n + 1) + 3) _
    cases g with
    | mn w =>
      have z : Bs 100 0 (.str w.s) := by cases w <;> exact bs_str (by decide +kernel)
      exact (bs_cons (z.mono (Nat.le_refl _) (Nat.zero_le _)) (bs_cons (h := 2 * n + 4) h7 (bs_nil _))).mono (by omega) (by omega)
    | tm i =>
      have z : Bs 100 0 (.str "times") := bs_str (by decide +kernel)
      exact (bs_cons (h := 2 * n + 3) (z.mono (Nat.le_refl _) (Nat.zero_le _)) (bs_cons (h := 2 * n + 3) ((bs_num ho).mono (Nat.le_refl _) (Nat.zero_le _)) h7)).mono (by omega) (by omega)
    | ov =>
      have z : Bs 100 0 (.str "over") := bs_str (by decide +kernel)
      exact (bs_cons (h := 2 * n + 3) (z.mono (Nat.le_refl _) (Nat.zero_le _)) h7).mono (by omega) (by omega)
    | cs s =>
      obtain ⟨a, b, c, d, rfl⟩ := hf
      have z : Bs 100 0 (.str s.s) := by cases s <;> exact bs_str (by decide +kernel)
      have ga := h a (by simp)
      obtain ⟨_, _, _, _, _, _, _, h8⟩ := gfA (n := n) (p := p) (xs := [b, c, d]) fun x hx => h x (List.mem_cons_of_mem _ hx)
      have h9 := bs_cons (h := 2 * n + 3) (h0.mono (Nat.le_refl _) (Nat.zero_le _)) (bs_cons (h := 2 * n + 3) ga.bs (bs_cons (h := 2 * n + 3) (z.mono (Nat.le_refl _) (Nat.zero_le _)) h8))
      have e : hdD (.cs s) (fdA [a, b, c, d]) = .tup (.str "case" :: a.d :: .str s.s :: fdA [b, c, d]) := by simp only [fdA, hdD]
      rw [e]
      refine h9.mono ?_ (by omega)
      show _ ≤ 6 * (Cf n + 2) + 300
      simp only [List.length_cons, List.length_nil]
      omega
mutual
theorem dr_gf {p : Str} : ∀ f : Fm, f.dr p → Gf p f.hgt f
  | .num i, h => by rw [Fm.dr] at h; rw [Fm.hgt]; exact gf_num h
  | .emp, h => by rw [Fm.hgt]; exact gf_emp
  | .inp, h => by rw [Fm.dr] at h; exact h.elim
  | .nm c r, h => by rw [Fm.dr] at h; rw [Fm.hgt]; exact gf_nm h
  | .rg w c a b, h => by rw [Fm.dr] at h; rw [Fm.hgt]; exact gf_rg h
  | .node g xs, h => by
    rw [Fm.dr] at h
    rw [Fm.hgt]
    exact gf_node (drA_gf xs h.2.2.2) h.2.2.1 h.2.1 h.1
theorem drA_gf {p : Str} : ∀ xs : List Fm, drA p xs → ∀ x ∈ xs, Gf p (hgtA xs) x
  | x :: xs, h, y, hy => by
    rw [drA] at h
    rw [hgtA]
    rcases List.mem_cons.mp hy with e | hy
    · rw [e]; exact (dr_gf x h.1).mono (Nat.le_max_left _ _)
    · exact (drA_gf xs h.2 y hy).mono (Nat.le_max_right _ _)
end
mutual
theorem wr_dr {p : Str} : ∀ (f : Fm) (os : List Rd), f.dr p → SameS os f.rds → (∀ o ∈ os, RdP p o) → (f.wr os).dr p
  | .nm c r, os, h, s, k => by
    rw [Fm.rds] at s
    obtain ⟨y, rfl, e⟩ := sames1 s
    cases y with
    | nm c r => rw [Fm.wr, wrNm, Fm.dr]; exact k _ List.mem_cons_self
    | rg c a b => cases e
  | .rg w c a b, os, h, s, k => by
    rw [Fm.rds] at s
    obtain ⟨y, rfl, e⟩ := sames1 s
    cases y with
    | nm c r => cases e
    | rg c a b => rw [Fm.wr, wrRg, Fm.dr]; exact k _ List.mem_cons_self
  | .node g xs, os, h, s, k => by
    rw [Fm.rds] at s
    rw [Fm.dr] at h
    rw [Fm.wr, Fm.dr]
    exact ⟨h.1, Hd.fit_len (wrA_len xs os).symm h.2.1, by rw [wrA_len]; exact h.2.2.1, wrA_dr xs os h.2.2.2 s k⟩
  | .num i, os, h, _, _ => by rw [Fm.wr]; exact h
  | .emp, os, h, _, _ => by rw [Fm.wr]; exact h
  | .inp, os, h, _, _ => by rw [Fm.wr]; exact h
theorem wrA_dr {p : Str} : ∀ (xs : List Fm) (os : List Rd), drA p xs → SameS os (rdsA xs) → (∀ o ∈ os, RdP p o) → drA p (wrA xs os)
  | [], os, _, _, _ => by rw [wrA, drA]; trivial
  | x :: xs, os, h, s, k => by
    rw [rdsA] at s
    rw [drA] at h
    obtain ⟨s1, s2⟩ := s.split
    rw [wrA, drA]
    exact ⟨wr_dr x _ h.1 s1 fun o ho => k o (List.mem_of_mem_take ho), wrA_dr xs _ h.2 s2 fun o ho => k o (List.mem_of_mem_drop ho)⟩
end
theorem Gf.wr {p : Str} {n : Nat} {f : Fm} (h : Gf p n f) {os : List Rd} (s : SameS os f.rds) (k : ∀ o ∈ os, RdP p o) : Gf p n (f.wr os) := by
  have z := dr_gf _ (wr_dr f os h.dr s k)
  rw [wr_hgt] at z
  exact z.mono h.hgt
/-- a whole formula for a place -/
def WholeF (p : Str) (f : Fm) : Prop := f = .inp ∧ p ≠ "foot" ∨ Gf p 4 f
theorem WholeF.wr {p : Str} {f : Fm} (h : WholeF p f) {os : List Rd} (s : SameS os f.rds) (k : ∀ o ∈ os, RdP p o) : WholeF p (f.wr os) := by
  rcases h with ⟨rfl, hp⟩ | h
  · rw [Fm.wr]; exact .inl ⟨rfl, hp⟩
  · exact .inr (h.wr s k)
/-- as gf_node, of what can be walked -/
theorem Gf.sm {p : Str} {n : Nat} {f : Fm} (h : Gf p n f) (hn : n ≤ 5) : f.Sm (n + 1) := by
  refine ⟨h.wf, Nat.lt_succ_of_le h.hgt, Nat.le_trans h.sz (Nat.le_trans (Sf_mono hn) (by decide))⟩
theorem Fm.Sm.mono {m n : Nat} {f : Fm} (h : f.Sm m) (e : m ≤ n) : f.Sm n := ⟨h.wf, Nat.lt_of_lt_of_le h.hgt e, h.sz⟩
/-! ### draws -/
def tDr2 (P : Str → D → Prop) : TF := fun rs Q => ∃ p : Str, rs = [.bag, .dt (.str p)] ∧ IsPl p ∧ ∀ x, P p x → Q (.dt x)
theorem mono_tDr2 {P : Str → D → Prop} : MonoF (tDr2 P) := fun rs Q Q' ⟨p, e, h, q⟩ w => ⟨p, e, h, fun x hx => w _ (q x hx)⟩
theorem len_tDr2 {P : Str → D → Prop} : ∀ rs Q, tDr2 P rs Q → rs.length = 2 := fun rs Q ⟨p, e, _⟩ => by rw [e]; rfl
theorem pick {xs : List D} {d : Int} (h0 : 0 ≤ d) (h1 : d < (xs.length : Int)) : ∃ x, atI xs d = some x ∧ x ∈ xs := by
  have hd : d.toNat < xs.length := by omega
  exact ⟨xs[d.toNat], atI_of (by omega) (List.getElem?_eq_getElem hd), List.getElem_mem hd⟩
def PartP (x : D) : Prop := isPart x = true ∧ Bs 300 1 x ∧ sm100 x = true
theorem partP_lost : PartP (.tup [.str "lost"]) := ⟨rfl, (bs_cons (bs_str (by decide +kernel)) (bs_nil 0)).mono (by decide) (by decide), rfl⟩
theorem partP_at {i : Int} (h : 0 ≤ i) (h2 : i < 100) : PartP (.tup [.str "at", .int i]) := by
  refine ⟨?_, (bs_cons (bs_str (by decide +kernel)) (bs_cons (bs_i (by omega)) (bs_nil 0))).mono (by decide) (by decide), by show (true && (decide (i.natAbs < 100) && true)) = true; rw [decide_eq_true (by omega)]; rfl⟩
  show (false || (true && decide (0 ≤ i))) = true
  rw [decide_eq_true h]; rfl
theorem partP_by {i : Int} (h : i.natAbs < 100) : PartP (.tup [.str "by", .int i]) :=
  ⟨rfl, (bs_cons (bs_str (by decide +kernel)) (bs_cons (bs_i h) (bs_nil 0))).mono (by decide) (by decide), by show (true && (decide (i.natAbs < 100) && true)) = true; rw [decide_eq_true h]; rfl⟩
theorem or_t {a b : Bool} (h : a = true) : (a || b) = true := by rw [h]; rfl
/-- a row part for a place -/
structure RowP (p : Str) (r : D) : Prop where
  ok : isRow r = true
  fits : (Rd.nm .non r).fits p = true
  bs : Bs 300 1 r
  sm : sm100 r = true
theorem rdp_nm {p : Str} {c r : D} (hc : PartP c) (hr : RowP p r) : RdP p (.nm c r) := by
  refine ⟨⟨hc.1, hr.ok⟩, hr.fits, ?_, by show (true && (sm100 c && (sm100 r && true))) = true; rw [hc.2.2, hr.sm]; rfl⟩
  exact (bs_cons (h := 1) ((bs_str (by decide +kernel) : Bs 100 0 (.str "name")).mono (Nat.le_refl _) (by decide)) (bs_cons (h := 1) hc.2.1 (bs_cons (h := 1) hr.bs (bs_nil 1)))).mono (by decide) (by decide)
theorem rdp_rg {p : Str} {c a b : D} (hc : PartP c) (ha : a = .non ∨ ∃ i : Int, a = .int i ∧ i.natAbs < 100) (hb : b = .non ∨ ∃ i : Int, b = .int i ∧ i.natAbs < 100) (hp : p = "body" ∨ p = "foot" ∧ a = .non ∧ b = .non) : RdP p (.rg c a b) := by
  have lim : ∀ {a : D}, (a = .non ∨ ∃ i : Int, a = .int i ∧ i.natAbs < 100) → isLim a = true ∧ Bs 100 0 a ∧ sm100 a = true := by
    intro a h
    rcases h with rfl | ⟨i, rfl, hi⟩
    · exact ⟨rfl, bsB_ok (by decide +kernel), rfl⟩
    · exact ⟨rfl, bs_i hi, decide_eq_true hi⟩
  obtain ⟨a1, a2, a3⟩ := lim ha
  obtain ⟨b1, b2, b3⟩ := lim hb
  refine ⟨⟨hc.1, a1, b1⟩, ?_, ?_, by show (true && (sm100 c && (sm100 a && (sm100 b && true)))) = true; rw [hc.2.2, a3, b3]; rfl⟩
  · rcases hp with rfl | ⟨rfl, rfl, rfl⟩
    · unfold Rd.fits; exact or_t (a := decide (("body" : Str) = "body")) (decide_eq_true rfl)
    · rfl
  · exact (bs_cons (h := 1) ((bs_str (by decide +kernel) : Bs 100 0 (.str "rows")).mono (Nat.le_refl _) (by decide)) (bs_cons (h := 1) hc.2.1 (bs_cons (h := 1) (a2.mono (Nat.le_refl _) (by decide)) (bs_cons (h := 1) (b2.mono (Nat.le_refl _) (by decide)) (bs_nil 1))))).mono (by decide) (by decide)
theorem rowP_head {p : Str} : RowP p (.tup [.str "head"]) := ⟨rfl, by unfold Rd.fits; exact or_t (a := decide (rowW (.tup [.str "head"]) = "head")) (decide_eq_true rfl), (bs_cons (bs_str (by decide +kernel)) (bs_nil 0)).mono (by decide) (by decide), rfl⟩
theorem rowP_by {i : Int} (h : i.natAbs < 100) : RowP "body" (.tup [.str "by", .int i]) := ⟨rfl, rfl, (bs_cons (bs_str (by decide +kernel)) (bs_cons (bs_i h) (bs_nil 0))).mono (by decide) (by decide), by show (true && (decide (i.natAbs < 100) && true)) = true; rw [decide_eq_true h]; rfl⟩
theorem rowP_foot : RowP "foot" (.tup [.str "foot"]) := ⟨rfl, rfl, (bs_cons (bs_str (by decide +kernel)) (bs_nil 0)).mono (by decide) (by decide), rfl⟩
theorem rowP_last {i : Int} (h : 0 ≤ i) (h2 : i < 100) : RowP "foot" (.tup [.str "last", .int i]) := by
  refine ⟨?_, rfl, (bs_cons (bs_str (by decide +kernel)) (bs_cons (bs_i (by omega)) (bs_nil 0))).mono (by decide) (by decide), by show (true && (decide (i.natAbs < 100) && true)) = true; rw [decide_eq_true (by omega)]; rfl⟩
  show (false || (true && decide (0 ≤ i))) = true
  rw [decide_eq_true h]; rfl
theorem of_drawn {G : Fm → Prop} : ∀ {ys : List D}, (∀ y ∈ ys, ∃ f, y = Fm.d f ∧ G f) → ∃ fs : List Fm, ys = fdA fs ∧ (∀ f ∈ fs, G f) ∧ fs.length = ys.length
  | [], _ => ⟨[], by rw [fdA], fun f hf => (List.not_mem_nil hf).elim, rfl⟩
  | y :: ys, h => by
    obtain ⟨fs, e, h1, h2⟩ := of_drawn fun z hz => h z (List.mem_cons_of_mem _ hz)
    obtain ⟨f, rfl, hf⟩ := h y List.mem_cons_self
    refine ⟨f :: fs, by rw [fdA, e], fun g hg => ?_, by rw [List.length_cons, List.length_cons, h2]⟩
    rcases List.mem_cons.mp hg with rfl | hg
    · exact hf
    · exact h1 g hg
theorem WholeF.sm {p : Str} {f : Fm} (h : WholeF p f) : f.Sm 5 := by
  rcases h with ⟨rfl, _⟩ | h
  · exact ⟨by rw [Fm.wf]; trivial, by rw [Fm.hgt]; decide, by rw [Fm.sz]; decide⟩
  · exact h.sm (by decide)
theorem WholeF.ok {p : Str} {f : Fm} (h : WholeF p f) : f.ok := by
  rcases h with ⟨rfl, _⟩ | h
  · rw [Fm.ok]; trivial
  · exact h.ok
theorem WholeF.rds {p : Str} {f : Fm} (h : WholeF p f) : ∀ r ∈ f.rds, RdP p r := by
  rcases h with ⟨rfl, _⟩ | h
  · rw [Fm.rds]; exact fun r hr => (List.not_mem_nil hr).elim
  · exact h.rds
theorem WholeF.sz {p : Str} {f : Fm} (h : WholeF p f) : f.rds.length ≤ 1555 := by
  rcases h with ⟨rfl, _⟩ | h
  · rw [Fm.rds]; decide
  · exact Nat.le_trans (rds_sz f) h.sz
theorem WholeF.bs {p : Str} {f : Fm} (h : WholeF p f) : Bs 4000000 20 f.d := by
  rcases h with ⟨rfl, _⟩ | h
  · rw [Fm.d]; exact (bs_cons (bs_str (by decide +kernel)) (bs_nil 0)).mono (by decide) (by decide)
  · exact h.bs.mono (by decide) (by decide)
theorem WholeF.fits {p : Str} {f : Fm} (hp : IsPl p) (h : WholeF p f) : f.fits p = true := by
  rcases h with ⟨rfl, np⟩ | h
  · cases hp with
    | head => rfl
    | body => rfl
    | foot => exact absurd rfl np
  · have e : f.fits p = (!f.hasInp && f.rds.all fun r => r.fits p) := by
      cases f <;> first | rfl | (exact absurd h.ni (by rw [Fm.hasInp]; decide))
    rw [e, h.ni, List.all_eq_true.mpr fun r hr => (h.rds r hr).fits]; rfl
end DL

set_option Elab.async false
set_option linter.all false
set_option maxRecDepth 100000
set_option maxHeartbeats 4000000
/-! DLQ: is, is not of truths. -/
namespace DL
open PySem PySem.Spec PyProof.Rows L2
def fIsB (neg : Bool) : FD2 := fun d e δ Q => match d, e with
  | .bl a, .bl b => Q (.dt (.bl (if neg then !decide (a = b) else decide (a = b)))) δ
  | _, _ => False
theorem mono_fIsB {neg : Bool} : MonoF2 (fIsB neg) := fun d e δ Q Q' q w => by
  unfold fIsB at q ⊢
  split at q <;> first | exact w _ _ q | exact q
theorem opS_isB {K : PySem.W.Frag} : OpS K rIsB (fIsB false) := by
  intro B H0 G0 H σ δ G x y d e Q R hx hy q
  unfold fIsB at q
  split at q
  · cases hx; cases hy
    exact ⟨_, _, rfl, rfl, aft_here R (.bl _) q⟩
  · exact q.elim
theorem opS_notB {K : PySem.W.Frag} : OpS K rNotB (fIsB true) := by
  intro B H0 G0 H σ δ G x y d e Q R hx hy q
  unfold fIsB at q
  split at q
  · cases hx; cases hy
    exact ⟨_, _, rfl, rfl, aft_here R (.bl _) q⟩
  · exact q.elim
section
variable {X : Cx} {a b : Expr} {pos : Pos} {ta tb : TD}
theorem pd_isB (ha : PD X a ta) (hb : PD X b tb) (hm : behindInMarks .Is b = false := nomark _) : PD X (.Compare a [.Is] [b] pos) (td2 (fIsB false) ta tb) := pd_cmp op_isBl mono_fIsB opS_isB ha hb hm
theorem pd_notB (ha : PD X a ta) (hb : PD X b tb) (hm : behindInMarks .IsNot b = false := nomark _) : PD X (.Compare a [.IsNot] [b] pos) (td2 (fIsB true) ta tb) := pd_cmp op_notBl mono_fIsB opS_notB ha hb hm
theorem pdt_isB (ha : PD X a ta) (hb : PD X b tb) (hm : behindInMarks .Is b = false := nomark _) : PDT X (.Compare a [.Is] [b] pos) (tdBool (td2 (fIsB false) ta tb)) := pdt_of op_isBl mono_fIsB opS_isB ha hb hm
theorem pdt_notB (ha : PD X a ta) (hb : PD X b tb) (hm : behindInMarks .IsNot b = false := nomark _) : PDT X (.Compare a [.IsNot] [b] pos) (tdBool (td2 (fIsB true) ta tb)) := pdt_of op_notBl mono_fIsB opS_notB ha hb hm
end
end DL

set_option Elab.async false
set_option linter.all false
set_option maxRecDepth 100000
set_option maxHeartbeats 4000000
/-! DLR: what was shared for a test is owned again; instances; zip; max and min of two; isinstance of two types. -/
namespace DL
open PySem PySem.Spec PyProof.Rows L2
/-! ### thawing: a scalar result, the state as it was -/
section
variable {K : PySem.W.Frag} {B : Bg} {H0 G0 H H' G G' : Hp} {σ : L2.St} {δ δ' : List Sl}
theorem BagOk.thaw {b : Addr} {c : Cell} (h : BagOk H' G' b c) (k : BagOk H G b c) : BagOk H' G b c := by
  cases c with
  | bag c =>
    obtain ⟨x, m, i, ns, h1, h2, h3, h4, h5, h6, h7, h8, h9⟩ := h
    obtain ⟨x', m', i', ns', k1, k2, k3, k4, k5, k6, k7, k8, k9⟩ := k
    exact ⟨x, m, i, ns', h1, k2, k3, h4, k5, h6, h7, h8, k9⟩
  | cnt =>
    obtain ⟨n, h1, h2⟩ := h
    obtain ⟨n', k1, k2⟩ := k
    exact ⟨n, h1, k2⟩
theorem Rel.thaw (R : Rel K B H0 G0 H σ δ G) (R' : Rel K B H0 G0 H' σ δ' G') (sG : Same G G') (fr : Fra B H H') : Rel K B H0 G0 H' σ δ G := by
  refine ⟨sG.trans R'.sub, R.g0, R'.ent, R.len, fun i s e => ?_, R.sep, R.own, fun b c e => (R'.bag b c e).thaw (R.bag b c e), R.gn, R'.sz⟩
  rcases R.sl i s e with z | ⟨v, ev, ok⟩
  · exact .inl z
  · refine .inr ⟨v, ev, ?_⟩
    cases io : s.isOwn with
    | false => cases s <;> first | exact ok | cases io
    | true =>
      obtain ⟨a, ea, ga, h⟩ := ok.own io
      have oa : Own σ δ i a := ⟨ea ▸ ev, s, e, io⟩
      have h2 := h.up (fun o q => fr a o q (R.own i a oa).2.2) (Same.refl G)
      cases s <;> first | exact ⟨a, ea, ga, h2⟩ | cases io
end
def scal : Sl → Bool
  | .dt .non => true
  | .dt (.bl _) => true
  | .dt (.int _) => true
  | .dt (.str _) => true
  | _ => false
theorem scal_ok {K : PySem.W.Frag} {B : Bg} {H0 H G G2 : Hp} {σ : L2.St} {δ δ2 : List Sl} {v : V} {r : Sl} (h : scal r = true) (ok : ResOk K B H0 H σ δ G v r) : ResOk K B H0 H σ δ2 G2 v r := by
  unfold scal at h
  split at h <;> first | (cases ok.1; first | exact resOk_dt .non | exact resOk_dt (.bl _) | exact resOk_dt (.int _) | exact resOk_dt (.str _)) | cases h
def tdThaw (t : TD) : TD := fun δ Q => t δ fun r _ => scal r = true ∧ Q r δ
def tdThawT (t : TDT) : TDT := fun δ Q => t δ fun b _ => Q b δ
section
variable {X : Cx} {e : Expr} {t : TD} {u : TDT}
theorem pd_thaw (h : PD X e t) : PD X e (tdThaw t) := by
  refine ⟨PE.weak h.pe fun σ H Q ⟨B, H0, G0, δ, G, R, q⟩ => ⟨B, H0, G0, δ, G, R, h.mono _ _ _ q fun r δ' q v H' G' R' s' f' ok => ?_⟩, fun δ Q Q' q w => h.mono _ _ _ q fun r δ' q => ⟨q.1, w _ _ q.2⟩⟩
  exact q.2 v H' G (R.thaw R' s' f') (Same.refl _) f' (scal_ok q.1 ok)
theorem pdt_thaw (h : PDT X e u) : PDT X e (tdThawT u) := by
  refine ⟨PT.weak h.pt fun σ H Q ⟨B, H0, G0, δ, G, R, q⟩ => ⟨B, H0, G0, δ, G, R, h.mono _ _ _ q fun b δ' q H' G' R' s' f' => ?_⟩, fun δ Q Q' q w => h.mono _ _ _ q fun b δ' q => w _ _ q⟩
  exact q H' G (R.thaw R' s' f') (Same.refl _) f'
end
/-! ### a statement that is never come to -/
theorem pds_never {X : Cx} {st : Stmt} : PDS X st (fun _ _ => False) := ⟨⟨fun pins s σ H D I h => by obtain ⟨_, _, _, _, _, _, h⟩ := h; exact h.elim⟩, fun _ _ _ _ h => h⟩
/-! ### max, min of two -/
def gMax2 : FDC := fun rs δ Q => match rs with
  | [.dt (.int i), .dt (.int j)] => Q (.dt (.int (max i j))) δ
  | _ => False
def gMin2 : FDC := fun rs δ Q => match rs with
  | [.dt (.int i), .dt (.int j)] => Q (.dt (.int (min i j))) δ
  | _ => False
theorem boot_min' : bootBuiltins "min" = some (.builtin "min") := by decide +kernel
section
variable {X : Cx} {e e2 : Expr} {u : TDA} {p pos : Pos}
theorem pd_max2 (hc : X.calm = true) (hg : Gl X "max") (hm : X.mg "max" = none) (h : PDA X [e, e2] u) (he : starEach [e, e2] X.env = (false, eval e X.env) :: starEach [e2] X.env := by rfl) (hpl : (backTo pos (starEach [e2] X.env)).any (·.1) = false := by rfl) :
    PD X (.Call (.Name "max" p) [e, e2] [] pos) (tdCB gMax2 u) :=
  pd_callB (call_max2 hc) (fun rs δ Q Q' q w => by unfold gMax2 at q ⊢; split at q <;> first | exact w _ _ q | exact q)
    (fun B H0 G0 H σ δ G vs rs Q R oks q => by
      unfold gMax2 at q
      split at q
      · rename_i i j
        obtain ⟨v, w, rfl, h1, h2⟩ := arg2 oks
        cases h1; cases h2
        refine ⟨_, _, rfl, ?_⟩
        rw [show (if j > i then j else i) = max i j by split <;> omega]
        exact aft_here R (.int _) q
      · exact q.elim) hg hm boot_max h (by decide) (by decide) he hpl
theorem pd_min2 (hc : X.calm = true) (hg : Gl X "min") (hm : X.mg "min" = none) (h : PDA X [e, e2] u) (he : starEach [e, e2] X.env = (false, eval e X.env) :: starEach [e2] X.env := by rfl) (hpl : (backTo pos (starEach [e2] X.env)).any (·.1) = false := by rfl) :
    PD X (.Call (.Name "min" p) [e, e2] [] pos) (tdCB gMin2 u) :=
  pd_callB (call_min2 hc) (fun rs δ Q Q' q w => by unfold gMin2 at q ⊢; split at q <;> first | exact w _ _ q | exact q)
    (fun B H0 G0 H σ δ G vs rs Q R oks q => by
      unfold gMin2 at q
      split at q
      · rename_i i j
        obtain ⟨v, w, rfl, h1, h2⟩ := arg2 oks
        cases h1; cases h2
        refine ⟨_, _, rfl, ?_⟩
        rw [show (if j < i then j else i) = min i j by split <;> omega]
        exact aft_here R (.int _) q
      · exact q.elim) hg hm boot_min' h (by decide) (by decide) he hpl
end
/-! ### isinstance(x, (T, U)) -/
def tdIsi2 (T U : Ty) (ta : TD) : TD := fun δ Q => ta δ fun r δ' => match fz r with
  | some d => d.isIns = false ∧ Q (.dt (.bl (isTy T d || isTy U d))) δ'
  | none => False
section
variable {X : Cx} {e : Expr} {ta : TD} {p pos : Pos}
theorem pd_isi2 (T U : Ty) {x y : Str} {p2 p3 p4 : Pos} {kt : Nat} (hg : Gl X "isinstance") (hm : X.mg "isinstance" = none) (hgx : Gl X x) (hmx : X.mg x = none) (hvx : bootBuiltins x = some (.type T.name)) (hgy : Gl X y) (hmy : X.mg y = none) (hvy : bootBuiltins y = some (.type U.name)) (h : PD X e ta)
    (hn : x ≠ "__name__" := by decide) (hdx : (x == ("__debug__" : Str)) = false := by decide) (hny : y ≠ "__name__" := by decide) (hdy : (y == ("__debug__" : Str)) = false := by decide)
    (hs0 : starEach [.Name y p3] X.env = (false, eval (.Name y p3) X.env) :: starEach [] X.env := by rfl) (hs1 : starEach [.Name x p2, .Name y p3] X.env = (false, eval (.Name x p2) X.env) :: starEach [.Name y p3] X.env := by rfl)
    (hs2 : starEach [.Tuple [.Name x p2, .Name y p3] kt p4] X.env = (false, eval (.Tuple [.Name x p2, .Name y p3] kt p4) X.env) :: starEach [] X.env := by rfl)
    (he : starEach [e, .Tuple [.Name x p2, .Name y p3] kt p4] X.env = (false, eval e X.env) :: starEach [.Tuple [.Name x p2, .Name y p3] kt p4] X.env := by rfl) (hpl : (backTo pos (starEach [.Tuple [.Name x p2, .Name y p3] kt p4] X.env)).any (·.1) = false := by rfl) :
    PD X (.Call (.Name "isinstance" p) [e, .Tuple [.Name x p2, .Name y p3] kt p4] [] pos) (tdIsi2 T U ta) := by
  have rule := pe_callB (X := X) (p := p) (pos := pos) call_isiT hg hm boot_isi' (pa_cons h.pe (pa_cons (pe_tup (x1 := kt) (pos := p4) (pa_cons (pe_bltn (pos := p2) (v := .ty T.name) hgx hmx hvx rfl hn hdx) (pa_cons (pe_bltn (pos := p3) (v := .ty U.name) hgy hmy hvy rfl hny hdy) pa_nil hs0) hs1)) pa_nil hs2) he) (by decide) (by decide) he hpl
  refine ⟨PE.weak rule fun σ H Q ⟨B, H0, G0, δ, G, R, q⟩ => ?_, fun δ Q Q' q w => h.mono _ _ _ q fun r δ' q => ?_⟩
  · refine ev_data h.mono (kk := fun d δ' => d.isIns = false ∧ Aft X.K B H0 G0 H σ G Q (.dt (.bl (isTy T d || isTy U d))) δ') R q fun d δ1 v H1 G1 R1 s1 f1 hd hq => ?_
    refine ⟨(by show (2 : Nat) ≤ sizeLine; decide), fun tp ht => ?_⟩
    have R2 := R1.laidO (o := .tup [.ty T.name, .ty U.name]) ht (by show (2 : Nat) ≤ sizeLine; decide)
    refine ⟨v, tp, _, _, _, isTy T d || isTy U d, rfl, upd_same, .cons (.ty _) (.cons (.ty _) .nil), tyX_of R2 hd hq.1, kitAny_cons (kit_ty (kit_isTy T d hq.1)) (fun e1 => kitAny_cons (kit_ty (kit_isTy U d hq.1)) (fun e2 => ?_) fun e2 => ?_) fun e1 => ?_, aft_here R2 (.bl _) (aftUp hq.2 s1 (f1.trans (Fra.upd ht)))⟩
    · rw [e1, e2]; exact kitAny_nil
    · rw [e2]; exact Bool.or_true _
    · rw [e1]; rfl
  · cases e : fz r with
    | none => rw [e] at q; exact q
    | some d => rw [e] at q; exact ⟨q.1, w _ _ q.2⟩
end
/-! ### zip of two tuples, of two lists -/
def zipD : List D → List D → List D
  | a :: as, b :: bs => .tup [a, b] :: zipD as bs
  | _, _ => []
theorem zipD_get : ∀ (as bs : List D) (i : Nat) (d : D), (zipD as bs)[i]? = some d → ∃ x y, as[i]? = some x ∧ bs[i]? = some y ∧ d = .tup [x, y]
  | a :: as, b :: bs, 0, d, e => by cases e; exact ⟨a, b, rfl, rfl, rfl⟩
  | a :: as, b :: bs, i + 1, d, e => by
    obtain ⟨x, y, h1, h2, h3⟩ := zipD_get as bs i d (by simpa [zipD] using e)
    exact ⟨x, y, by simpa using h1, by simpa using h2, h3⟩
  | [], _, _, _, e => by simp [zipD] at e
  | _ :: _, [], _, _, e => by simp [zipD] at e
theorem zipD_len : ∀ (as bs : List D), (zipD as bs).length = min as.length bs.length
  | a :: as, b :: bs => by show (zipD as bs).length + 1 = min (as.length + 1) (bs.length + 1); rw [zipD_len as bs]; omega
  | [], bs => by show 0 = min 0 _; omega
  | _ :: _, [] => by show 0 = min _ 0; omega
theorem itOk_zipT {K : PySem.W.Frag} {G : Hp} {a b : Addr} {vs ws : List V} {xs ys : List D} (h1 : SqT K G a vs) (h2 : DdA K G vs xs) (h3 : SqT K G b ws) (h4 : DdA K G ws ys) : ItOk K G (RZ.ItzT K a b) (zipD xs ys) := by
  intro B H0 G0 H σ δ G2 R sG
  have hq1 : SqT K H a vs := sameT R.sub (sameT sG h1)
  have hq2 : SqT K H b ws := sameT R.sub (sameT sG h3)
  refine ⟨fun i d e => ?_, ⟨vs, ws, hq1, hq2, ?_⟩⟩
  · obtain ⟨x0, y0, e1, e2, rfl⟩ := zipD_get xs ys i d e
    obtain ⟨v, ev, hv⟩ := h2.get e1
    obtain ⟨w, ew, hw⟩ := h4.get e2
    refine ⟨⟨vs, ws, v, w, hq1, hq2, ev, ew⟩, fun x H3 y => ?_⟩
    obtain ⟨T, x1, y1, rfl, nT, rfl, z1, z2⟩ := y
    have e3 := z1 vs hq1
    have e4 := z2 ws hq2
    rw [ev] at e3; cases e3
    rw [ew] at e4; cases e4
    obtain ⟨R3, s3⟩ := R.laidG (o := .tup [v, w]) nT (by show (2 : Nat) ≤ sizeLine; decide)
    exact ⟨_, R3, s3, Fra.upd nT, .tup (.inl (.inl upd_same)) (.cons (Dd.mono (sG.trans s3) _ _ hv) (.cons (Dd.mono (sG.trans s3) _ _ hw) .nil))⟩
  · rw [zipD_len, h2.len, h4.len]; omega
def tdZip (t : TDA) : TDI := fun δ Q => t δ fun rs δ' => match rs with
  | [.dt (.tup xs), .dt (.tup ys)] => Q (zipD xs ys) δ'
  | _ => False
section
variable {X : Cx} {e e2 : Expr} {u : TDA} {p pos tpos : Pos}
theorem pdi_zip {elts : List Expr} {kk : Nat} (hg : Gl X "zip") (hm : X.mg "zip" = none) (h : PDA X [e, e2] u) (hs : starEach [e, e2] X.env = (false, eval e X.env) :: starEach [e2] X.env := by rfl) (hpl : (backTo pos (starEach [e2] X.env)).any (·.1) = false := by rfl) :
    PDI X (.Tuple elts kk tpos) (.Call (.Name "zip" p) [e, e2] [] pos) (tdZip u) := by
  refine ⟨PI.weak (RZ.pi_zipA hg hm h.pa hs hpl) fun σ H Rr ⟨B, H0, G0, δ, G, R, q⟩ => ⟨B, H0, G0, δ, G, R, h.mono _ _ _ q fun rs δ1 q vs H1 G1 R1 s1 f1 oks => ?_⟩, fun δ Q Q' q w => h.mono _ _ _ q fun r δ' q => ?_⟩
  · split at q
    · obtain ⟨v, w, rfl, hd, hd2⟩ := arg2 oks
      cases hd with
      | tup g1 g2 =>
        cases hd2 with
        | tup g3 g4 => exact ⟨_, _, _, _, rfl, .inr ⟨sameT R1.sub g1, sameT R1.sub g3, q _ _ _ R1 s1 f1 (itOk_zipT g1 g2 g3 g4)⟩⟩
    · exact q.elim
  · split at q
    · exact w _ _ q
    · exact q
end
end DL

set_option Elab.async false
set_option linter.all false
set_option maxRecDepth 100000
set_option maxHeartbeats 4000000
/-! DLS: instances of own classes: fields, methods, new ones. -/
namespace DL
open PySem PySem.Spec PyProof.Rows L2
def lk (f : Str) (ns : List Str) (ds : List D) : Option D := (ns.zip ds).lookup f
theorem lk_ok {K : PySem.W.Frag} {G : Hp} {f : Str} : ∀ {ns : List Str} {xs : List V} {ds : List D} {d : D}, DdA K G xs ds → lk f ns ds = some d → ∃ v, (ns.zip xs).lookup f = some v ∧ Dd K G v d
  | [], _, _, _, _, e => by simp [lk] at e
  | n :: ns, _, [], _, h, e => by simp [lk] at e
  | n :: ns, _, d0 :: ds, d, h, e => by
    cases h with
    | @cons v vs _ _ h1 h2 =>
      unfold lk at e
      rw [List.zip_cons_cons, List.lookup_cons] at e
      rw [List.zip_cons_cons, List.lookup_cons]
      cases c : (f == n) with
      | true => rw [c] at e; cases e; exact ⟨v, rfl, h1⟩
      | false => rw [c] at e; exact lk_ok h2 e
theorem lk_none {f : Str} : ∀ {ns : List Str} {xs : List V}, f ∉ ns → (ns.zip xs).lookup f = none
  | [], _, _ => by simp
  | n :: ns, [], _ => by simp
  | n :: ns, x :: xs, h => by
    rw [List.zip_cons_cons, List.lookup_cons]
    have c : (f == n) = false := by
      rw [beq_eq_false_iff_ne]
      intro z
      exact h (z ▸ List.mem_cons_self)
    rw [c]
    exact lk_none fun z => h (List.mem_cons_of_mem _ z)
/-! ### e.f -/
def tdFld (C : Addr) (f : Str) (t : TD) : TD := fun δ Q => t δ fun r δ' => match fz r with
  | some (.ins C' ns vs) => C' = C ∧ ∃ d, lk f ns vs = some d ∧ Q (.dt d) δ'
  | _ => False
section
variable {X : Cx} {e o : Expr} {es : List Expr} {t : TD} {u : TDA} {f m : Str} {C : Addr} {pos apos p : Pos}
theorem pd_fld (c : Cls X.K C) (n : NoAttr X.K C f) (h : PD X e t) (hb : attributeBase e f X.env (eval e X.env) = eval e X.env := by rfl) : PD X (.Attribute e f pos) (tdFld C f t) := by
  refine ⟨PE.weak (pe_fld h.pe hb) fun σ H Q ⟨B, H0, G0, δ, G, R, q⟩ => ?_, fun δ Q Q' q w => h.mono _ _ _ q fun r δ' q => ?_⟩
  · refine ev_data h.mono (kk := fun d δ' => match d with
      | .ins C' ns vs => C' = C ∧ ∃ d, lk f ns vs = some d ∧ Aft X.K B H0 G0 H σ G Q (.dt d) δ'
      | _ => False) R (h.mono _ _ _ q fun r δ' q => ?_) fun d δ1 v H1 G1 R1 s1 f1 hd hq => ?_
    · cases er : fz r with
      | none => rw [er] at q; exact q
      | some d => rw [er] at q; cases d <;> first | exact q | exact q.elim
    · split at hq
      · obtain ⟨rfl, d, hl, q2⟩ := hq
        cases hd with
        | @ins a _ dx _ xs _ h0 h1 h2 =>
          obtain ⟨v, e2, hv⟩ := lk_ok h2 hl
          exact ⟨a, _, dx, _, v, rfl, R1.sub _ _ h1, c, n, e2, aft_here R1 hv (aftUp q2 s1 f1)⟩
      · exact hq.elim
  · cases er : fz r with
    | none => rw [er] at q; exact q
    | some d =>
      rw [er] at q
      cases d <;> first | exact q.elim | skip
      obtain ⟨h1, d, h2, h3⟩ := q
      exact ⟨h1, d, h2, w _ _ h3⟩
/-! ### o.m(..) -/
structure MthX (P : Program) (w : World) (K : PySem.W.Frag) (mg : Str → Option Value) (base : Heap) (k : Nat) (C : Addr) (m : Str) (n : Nat) (t : TF) : Prop where
  ex : ∃ f fd ps, FnOk P w K mg base CX0 k f fd ps (spD K n t) ∧ Cls K C ∧ Meth K C m f ∧ Binds K fd ps []
  mono : MonoF t
  len : ∀ rs Q, t rs Q → rs.length = n
def tdMeth (C : Addr) (m : Str) (t : TF) (to : TD) (u : TDA) : TD := fun δ Q => to δ fun r δ1 => match fz r with
  | some (.ins C' ns vs) => C' = C ∧ m ∉ ns ∧ u δ1 fun rs δ2 => t (.dt (.ins C' ns vs) :: rs) (fun r => Q r δ2)
  | _ => False
theorem tdMeth_mono {t' : TF} {k n : Nat} (M : MthX X.prog X.w X.K X.mg X.base k C m n t') (ho : MonoD t) (hu : MonoA u) : MonoD (tdMeth C m t' t u) := fun δ Q Q' q w => ho _ _ _ q fun r δ' q => by
  cases er : fz r with
  | none => rw [er] at q; exact q
  | some d =>
    rw [er] at q
    cases d <;> first | exact q.elim | skip
    obtain ⟨h1, h2, h3⟩ := q
    exact ⟨h1, h2, hu _ _ _ h3 fun rs δ2 q => M.mono _ _ _ q fun r q => w _ _ q⟩
theorem tdMeth_run {t' : TF} {k n : Nat} (M : MthX X.prog X.w X.K X.mg X.base k C m n t') (ho : MonoD t) (hu : MonoA u) : ∀ σ H Q, tyE X.K (tdMeth C m t' t u) σ H Q → tMeth C m (spD X.K n t') [] E0 (tyE X.K t) (tyA X.K u) σ H Q := by
  intro σ H Q ⟨B, H0, G0, δ, G, R, q⟩
  refine ev_data ho (kk := fun d δ1 => match d with
    | .ins C' ns vs => C' = C ∧ m ∉ ns ∧ u δ1 fun rs δ2 => t' (.dt (.ins C' ns vs) :: rs) (fun r => Aft X.K B H0 G0 H σ G Q r δ2)
    | _ => False) R (ho _ _ _ q fun r δ' q => ?_) fun d δ1 v H1 G1 R1 s1 f1 hd hq => ?_
  · cases er : fz r with
    | none => rw [er] at q; exact q
    | some d => rw [er] at q; cases d <;> first | exact q | exact q.elim
  · split at hq
    · rename_i ns ds
      obtain ⟨rfl, hm, q2⟩ := hq
      cases hd with
      | @ins a _ dx _ xs _ h0 h1 h2 =>
        refine ⟨a, dx, _, rfl, R1.sub _ _ h1, lk_none hm, B, H0, G0, δ1, G1, R1, hu _ _ _ q2 fun rs δ2 q3 vs H2 G2 R2 s2 f2 oks => ?_⟩
        show spD X.K n t' (.ref a :: (vs ++ [])) H2 Q E0
        rw [List.append_nil]
        have hd2 : Dd X.K G2 (.ref a) (.ins _ ns ds) := Dd.mono s2 _ _ (.ins h0 h1 h2)
        refine ⟨?_, B, G2, .dt (.ins _ ns ds) :: rs, R2.sub, R2.bag, R2.sz, ⟨hd2, oks⟩, M.mono _ _ _ q3 fun r q v H' G' k => ?_⟩
        · have z := M.len _ _ q3
          rw [List.length_cons] at z ⊢
          rw [oks.len]; exact z
        · obtain ⟨R3, ok⟩ := R2.call k
          exact q v H' G' R3 ((s1.trans s2).trans k.gg) ((f1.trans f2).trans k.fra) ok
    · exact hq.elim
theorem pd_meth {t' : TF} {k n : Nat} {pl : Sem Bool} (M : MthX X.prog X.w X.K X.mg X.base k C m n t') (hr : Room k X.A) (ho : PD X o t) (hu : PDA X (e :: es) u)
    (hst : starEach (e :: es) X.env = (false, eval e X.env) :: starEach es X.env := by rfl) (hpl : (backTo pos (starEach es X.env)).any (·.1) = false := by rfl)
    (ht : eval (.Call (.Attribute o m apos) (e :: es) [] pos) X.env = (do
      let ov ← eval o X.env
      standAt apos.atName
      let (f, first) ← holding [ov] (getMethod ov m pl)
      callWith pos f first (backTo pos (starEach (e :: es) X.env)) (backToKw pos (keywordEach [] X.env))) := by rfl) :
    PD X (.Call (.Attribute o m apos) (e :: es) [] pos) (tdMeth C m t' t u) := by
  obtain ⟨f, fd, ps, F, c, hm, hb⟩ := M.ex
  exact ⟨PE.weak (pe_meth ho.pe c hm F hr hb .nil pass0 hu.pa hst hpl ht) (tdMeth_run M ho.mono hu.mono), tdMeth_mono M ho.mono hu.mono⟩
theorem pd_meth0 {t' : TF} {k n : Nat} {pl : Sem Bool} (M : MthX X.prog X.w X.K X.mg X.base k C m n t') (hr : Room k X.A) (ho : PD X o t)
    (ht : eval (.Call (.Attribute o m apos) [] [] pos) X.env = (do
      let ov ← eval o X.env
      standAt apos.atName
      let (f, first) ← holding [ov] (getMethod ov m pl)
      callWith pos f first (backTo pos (starEach [] X.env)) (backToKw pos (keywordEach [] X.env))) := by rfl) :
    PD X (.Call (.Attribute o m apos) [] [] pos) (tdMeth C m t' t tdNil) := by
  obtain ⟨f, fd, ps, F, c, hm, hb⟩ := M.ex
  have mA : MonoA tdNil := fun _ _ _ q w => w _ _ q
  refine ⟨PE.weak (pe_meth0 ho.pe c hm F hr hb .nil pass0 ht) fun σ H Q q => ?_, tdMeth_mono M ho.mono mA⟩
  have z := tdMeth_run M ho.mono mA σ H Q q
  obtain ⟨B, H0, G0, δ, G, R, q⟩ := z
  refine ⟨B, H0, G0, δ, G, R, ho.mono _ _ _ q fun r δ1 q v H1 G1 R1 s1 f1 ok => ?_⟩
  obtain ⟨a, dx, fs, h1, h2, h3, B', H0', G0', δ', G', R', q'⟩ := q v H1 G1 R1 s1 f1 ok
  exact ⟨a, dx, fs, h1, h2, h3, q' [] H1 G' R' (Same.refl _) (Fra.refl _ _) trivial⟩
end
/-! ### self.f = e, self owned -/
theorem putF_new {f : Str} {v : V} : ∀ {ns : List Str} {xs : List V}, ns.length = xs.length → f ∉ ns → putF f v (ns.zip xs) = (ns ++ [f]).zip (xs ++ [v])
  | [], [], _, _ => rfl
  | n :: ns, x :: xs, e, h => by
    show (if n = f then (n, v) :: ns.zip xs else (n, x) :: putF f v (ns.zip xs)) = (n, x) :: (ns ++ [f]).zip (xs ++ [v])
    have hn : n ≠ f := fun z => h (by rw [← z]; exact List.mem_cons_self)
    rw [if_neg hn, putF_new (by simpa using e) fun z => h (List.mem_cons_of_mem _ z)]
  | [], _ :: _, e, _ => by simp at e
  | _ :: _, [], e, _ => by simp at e
def tdFldS (i : Nat) (f : Str) (C : Addr) (te : TD) : TDS := fun D δ => te δ fun r δ1 => match fz r, δ1[i]? with
  | some d, some (.oI x C' ns ds) => C' = C ∧ f ∉ ns ∧ ns.length < 900 ∧ D.nx (δ1.set i (.oI x C' (ns ++ [f]) (ds ++ [d])))
  | _, _ => False
section
variable {X : Cx} {o value : Expr} {te : TD} {i : Nat} {f : Str} {C : Addr} {pos pos' : Pos}
theorem pds_fld (c : Cls X.K C) (n : NoAttr X.K C f) (ho : PE X o (tVar i)) (he : PD X value te) (hs : swapsWith value (some (.Attribute o f pos')) pos.line X.env = pure false := by rfl) : PDS X (.Assign [.Attribute o f pos'] value pos) (tdFldS i f C te) := by
  refine ⟨PS.weak (ps_fld ho he.pe hs) fun D σ H ⟨B, H0, G0, δ, G, R, q⟩ => ?_, fun D D' δ w q => he.mono _ _ _ q fun r δ1 q => ?_⟩
  · refine ⟨B, H0, G0, δ, G, R, he.mono _ _ _ q fun r δ1 q v H1 G1 R1 s1 f1 ok => ?_⟩
    split at q
    · rename_i d x C' ns ds er e1
      obtain ⟨rfl, hf, hl, qn⟩ := q
      obtain ⟨G2, R2, s2, hd⟩ := freeze R1 ok er
      rcases R2.sl i _ e1 with z | ⟨w, ew, a, rfl, ga, rfl, dx, xs, h0, h1, h2⟩
      · cases z
      · refine ⟨_, ew, a, C', dx, _, rfl, h1, c, n, ?_, ?_⟩
        · rw [List.length_zip, ← h0, Nat.min_self]; omega
        · rw [putF_new h0 hf]
          have oa : Own σ δ1 i a := ⟨ew, _, e1, rfl⟩
          exact qn σ _ G2 (R2.write oa (o := .ins C' dx ((ns ++ [f]).zip (xs ++ [v]))) trivial rfl ⟨rfl, dx, xs ++ [v], by simp [h0], upd_same, h2.append (.one hd)⟩)
    · exact q.elim
  · split at q
    · exact ⟨q.1, q.2.1, q.2.2.1, w.nx _ q.2.2.2⟩
    · exact q
end
/-! ### C(..) -/
abbrev TFI := List Sl → (List Str → List D → Prop) → Prop
structure RetI (K : PySem.W.Frag) (B : Bg) (C : Addr) (H G H' G' : Hp) (x : Addr) (ns : List Str) (ds : List D) : Prop where
  gg : Same G G'
  gh : Same G' H'
  bag : ∀ b c, (b, c) ∈ B → BagOk H' G' b c
  fra : ∀ a o, a ≠ x → H a = some o → NotB B a → H' a = some o
  sz : HSz H'
  gn : ∀ a o, G' a = some o → G a = some o ∨ H a = none
  gx : G' x = none
  obj : ∃ dx xs, ns.length = xs.length ∧ H' x = some (.ins C dx (ns.zip xs)) ∧ DdA K G' xs ds
def spI (K : PySem.W.Frag) (C : Addr) (n : Nat) (t : TFI) : Sp := fun vs H Q _ => ∃ x vs' B G dx rs, vs = .ref x :: vs' ∧ vs'.length = n ∧ H x = some (.ins C dx []) ∧ G x = none ∧ NotB B x ∧ Same G H ∧ (∀ b c, (b, c) ∈ B → BagOk H G b c) ∧ HSz H ∧ ArgsOk K B G vs' rs ∧
  t rs (fun ns ds => ∀ H' G', RetI K B C H G H' G' x ns ds → Q .non H')
structure InitX (P : Program) (w : World) (K : PySem.W.Frag) (mg : Str → Option Value) (base : Heap) (k : Nat) (C : Addr) (x : Str) (n : Nat) (t : TFI) : Prop where
  ex : ∃ f fd ps, FnOk P w K mg base CX0 k f fd ps (spI K C n t) ∧ Mk K C f ∧ mg x = some (.ref C) ∧ Binds K fd ps []
  mono : ∀ rs (Q Q' : List Str → List D → Prop), t rs Q → (∀ ns ds, Q ns ds → Q' ns ds) → t rs Q'
  len : ∀ rs Q, t rs Q → rs.length = n
def tdNew (C : Addr) (t : TFI) (u : TDA) : TD := fun δ Q => u δ fun rs δ' => t rs (fun ns ds => ∀ xa, Q (.oI xa C ns ds) δ')
section
variable {X : Cx} {e : Expr} {es : List Expr} {u : TDA} {C : Addr} {k n : Nat} {t : TFI} {x : Str} {p pos : Pos}
theorem pd_new (M : InitX X.prog X.w X.K X.mg X.base k C x n t) (hr : Room (k + 1) X.A) (hg : Gl X x) (h : PDA X (e :: es) u)
    (hdb : (x == ("__debug__" : Str)) = false := by decide) (he : starEach (e :: es) X.env = (false, eval e X.env) :: starEach es X.env := by rfl) (hpl : (backTo pos (starEach es X.env)).any (·.1) = false := by rfl) :
    PD X (.Call (.Name x p) (e :: es) [] pos) (tdNew C t u) := by
  obtain ⟨f, fd, ps, F, mk, hm, hb⟩ := M.ex
  refine ⟨PE.weak (pe_make mk F hr hg hm hb .nil pass0 h.pa hdb he hpl) fun σ H Q ⟨B, H0, G0, δ, G, R, q⟩ => ⟨B, H0, G0, δ, G, R, h.mono _ _ _ q fun rs δ1 q vs H1 G1 R1 s1 f1 oks => ?_⟩, fun δ Q Q' q w => h.mono _ _ _ q fun rs δ1 q => M.mono _ _ _ q fun ns ds q xa => w _ _ (q xa)⟩
  intro xa dx hx hdx nex
  rw [List.append_nil]
  have R2 := R1.laidO (o := .own xa) hdx trivial
  have hx2 : upd H1 dx (.own xa) xa = none := by rw [upd_ne nex.symm]; exact hx
  have R3 := R2.laidO (o := .ins C dx []) hx2 trivial
  have nB : NotB B xa := (R1.newOwn hx).2.1
  refine ⟨xa, vs, B, G1, dx, rs, rfl, oks.len.trans (M.len _ _ q), upd_same, R1.sub.free hx, nB, R3.sub, R3.bag, R3.sz, oks, M.mono _ _ _ q fun ns ds q H' G' k => ⟨rfl, ?_⟩⟩
  have back : ∀ a, upd (upd H1 dx (.own xa)) xa (.ins C dx []) a = none → H1 a = none := fun a z => by
    by_cases ha : a = xa
    · rw [ha]; exact hx
    · rw [upd_ne ha] at z
      by_cases hb : a = dx
      · rw [hb]; exact hdx
      · rw [upd_ne hb] at z; exact z
  have kk : RetOk X.K B H1 G1 H' G' (.ref xa) (.oI xa C ns ds) := by
    refine ⟨k.gg, k.gh, k.bag, fun a o e nb => k.fra a o (ne_of_none e hx) (by rw [upd_ne (ne_of_none e hx), upd_ne (ne_of_none e hdx)]; exact e) nb, k.sz, fun a o e => (k.gn a o e).imp id (back a), ⟨xa, rfl, k.gx, rfl, k.obj⟩, fun z => (nomatch z), fun _ a e => by cases e; exact hx⟩
  obtain ⟨R4, ok⟩ := R1.call kk
  exact q xa (.ref xa) H' G' R4 (s1.trans k.gg) (f1.trans kk.fra) ok
end
/-! ### __init__ from its body -/
theorem rel_startI {K : PySem.W.Frag} {B : Bg} {H G : Hp} {N : List Str} {vs : List V} {rs : List Sl} {x C dx : Addr} (hx : H x = some (.ins C dx [])) (gx : G x = none) (nx : NotB B x) (sub : Same G H) (bag : ∀ b c, (b, c) ∈ B → BagOk H G b c) (sz : HSz H) (oks : ArgsOk K B G vs rs) :
    Rel K B (fun a => if a = x then none else H a) G H (start N (.ref x :: vs)) (startD N (.oI x C [] [] :: rs)) G := by
  have el := oks.len
  have low : ∀ (i : Nat) (r : Sl), (startD N (.oI x C [] [] :: rs))[i]? = some r → (i = 0 ∧ r = .oI x C [] []) ∨ r = .no ∨ ∃ v, (start N (.ref x :: vs))[i]? = some (some v) ∧ ArgOk K B G v r := fun i r e => by
    cases i with
    | zero => cases e; exact .inl ⟨rfl, rfl⟩
    | succ i =>
      refine .inr ?_
      unfold startD at e
      rw [List.cons_append, List.getElem?_cons_succ] at e
      by_cases hi : i < rs.length
      · rw [List.getElem?_append_left hi] at e
        obtain ⟨v, ev, ok⟩ := argsOk_get oks e
        refine .inr ⟨v, ?_, ok⟩
        unfold L2.start
        rw [List.map_cons, List.cons_append, List.getElem?_cons_succ, List.getElem?_append_left (by rw [List.length_map, el]; exact hi), List.getElem?_map, ev]
        rfl
      · rw [List.getElem?_append_right (by omega), List.getElem?_replicate] at e
        split at e
        · cases e; exact .inl rfl
        · cases e
  have owns : ∀ i a, Own (start N (.ref x :: vs)) (startD N (.oI x C [] [] :: rs)) i a → i = 0 ∧ a = x := fun i a ⟨e1, s, e2, io⟩ => by
    rcases low i s e2 with ⟨z1, z2⟩ | rfl | ⟨v, _, ok⟩
    · subst z1
      have z : (start N (.ref x :: vs))[0]? = some (some (.ref x)) := rfl
      rw [z] at e1; cases e1
      exact ⟨rfl, rfl⟩
    · cases io
    · cases s <;> first | exact ok.elim | cases io
  refine ⟨sub, Same.refl _, fun a o e _ => ?_, ?_, fun i s e => ?_, fun i j a h1 h2 => ?_, fun i a h => ?_, bag, fun a o e => .inl e, sz⟩
  · by_cases ha : a = x
    · rw [if_pos ha] at e; cases e
    · rw [if_neg ha] at e; exact e
  · unfold L2.start startD
    simp [el]
  · rcases low i s e with ⟨rfl, rfl⟩ | z | ⟨v, ev, ok⟩
    · exact .inr ⟨.ref x, rfl, x, rfl, gx, rfl, dx, [], rfl, hx, .nil⟩
    · exact .inl z
    · refine .inr ⟨v, ev, ?_⟩
      cases s <;> first | exact ok | exact ok.elim
  · rw [(owns i a h1).1, (owns j a h2).1]
  · obtain ⟨rfl, rfl⟩ := owns i a h
    exact ⟨if_pos rfl, gx, nx⟩
section
variable {P : Program} {w : World} {K : PySem.W.Frag} {mg : Str → Option Value} {base : Heap} {m qual : Str} {st : Stmt} {f : Addr} {fd : FuncData} {N ps : List Str} {k n : Nat} {t : TFI} {C : Addr}
def endI (Q : List Str → List D → Prop) (x C : Addr) (δ : List Sl) : Prop := ∃ ns ds, δ[0]? = some (.oI x C ns ds) ∧ Q ns ds
theorem fnI (F : Fun K m qual st f fd) (S : FnScope N ps (defScope st)) (hn : ps.length = n + 1)
    (hb : ∀ (cdv : Value) (A : Around) (outer : List Env) (s : Shared) (H : Hp) (E : XK), Room k (A.deeper (envOfC qual (defScope st) s.heap.objs.size f cdv)) →
      ∃ tS, PDSs (cxOf CX0 P w K mg base N qual (defScope st) f cdv A outer s H E).nox (defBody st) tS ∧ ∀ x rs (Q : List Str → List D → Prop), t rs Q → tS { nx := endI Q x C, rt := fun r δ => r = .dt .non ∧ endI Q x C δ } (startD N (.oI x C [] [] :: rs))) :
    FnOk P w K mg base CX0 (k + 1) f fd ps (spI K C n t) :=
  F.ok S (fun vs H Q E h => by obtain ⟨x, vs', B, G, dx, rs, rfl, hl, _⟩ := h; rw [List.length_cons, hl]; exact hn.symm) fun cdv A outer s H vs Q E hr want => by
    obtain ⟨tS, h, le⟩ := hb cdv A outer s H E hr
    refine ⟨_, h.ps, ?_⟩
    obtain ⟨x, vs', B, G, dx, rs, rfl, hl, hx, gx, nx, sub, bag, sz, oks, q⟩ := want
    refine ⟨B, _, G, _, G, rel_startI hx gx nx sub bag sz oks, h.mono _ _ _ ?_ (le x rs _ q)⟩
    have fin : ∀ {δ' : List Sl} {σ' : L2.St} {H' G' : Hp}, Rel K B (fun a => if a = x then none else H a) G H' σ' δ' G' → endI (fun ns ds => ∀ H' G', RetI K B C H G H' G' x ns ds → Q .non H') x C δ' → Q .non H' := fun {δ' σ' H' G'} R' ⟨ns, ds, e, q⟩ => by
      rcases R'.sl 0 _ e with z | ⟨v, ev, a, rfl, ga, rfl, dx', xs, h0, h1, h2⟩
      · cases z
      · refine q H' G' ⟨R'.g0, R'.sub, R'.bag, fun b o nb e2 n => R'.ent b o (by rw [if_neg nb]; exact e2) n, R'.sz, fun b o e2 => ?_, ga, dx', xs, h0, h1, h2⟩
        rcases R'.gn b o e2 with z | z
        · exact .inl z
        · by_cases hb : b = a
          · rw [hb, ga] at e2; cases e2
          · rw [if_neg hb] at z; exact .inr z
    exact ⟨fun δ q σ' H' G' R' => fin R' q, fun r δ q v σ' H' G' R' ok => by
      obtain ⟨rfl, q⟩ := q
      cases ok.1
      exact fin R' q, fun _ q => q.elim, fun _ q => q.elim, fun _ _ _ _ q => q.elim⟩
end
/-- what the top has written of a method -/
structure Dfm (K : PySem.W.Frag) (C : Addr) (m qual : Str) (st : Stmt) (ps : List Str) : Prop where
  ex : ∃ f fd, Fun K m qual st f fd ∧ Meth K C m f ∧ Binds K fd ps []
section
variable {P : Program} {w : World} {K : PySem.W.Frag} {mg : Str → Option Value} {base : Heap} {m qual x : Str} {st : Stmt} {N ps : List Str} {k n : Nat} {t : TF} {C : Addr}
theorem MthX.of (c : Cls K C) (D : Dfm K C m qual st ps) (S : FnScope N ps (defScope st)) (hn : ps.length = n) (mt : MonoF t) (ln : ∀ rs Q, t rs Q → rs.length = n)
    (hb : ∀ (f : Addr) (cdv : Value) (A : Around) (outer : List Env) (s : Shared) (H : Hp) (E : XK), Room k (A.deeper (envOfC qual (defScope st) s.heap.objs.size f cdv)) →
      ∃ tS, PDSs (cxOf CX0 P w K mg base N qual (defScope st) f cdv A outer s H E).nox (defBody st) tS ∧ ∀ rs (Q : Sl → Prop), t rs Q → tS { nx := fun _ => Q (.dt .non), rt := fun r _ => Q r } (startD N rs)) :
    MthX P w K mg base (k + 1) C m n t := by
  obtain ⟨f, fd, F, hm, hbd⟩ := D.ex
  exact ⟨⟨f, fd, ps, fnD F S hn (fun cdv A outer s H E hr => hb f cdv A outer s H E hr), c, hm, hbd⟩, mt, ln⟩
/-- .. of __init__ -/
structure Dfi (K : PySem.W.Frag) (mg : Str → Option Value) (C : Addr) (x qual : Str) (st : Stmt) (ps : List Str) : Prop where
  ex : ∃ f fd, Fun K "__init__" qual st f fd ∧ Mk K C f ∧ mg x = some (.ref C) ∧ Binds K fd ps []
theorem InitX.of {t : TFI} (D : Dfi K mg C x qual st ps) (S : FnScope N ps (defScope st)) (hn : ps.length = n + 1) (mt : ∀ rs (Q Q' : List Str → List DL.D → Prop), t rs Q → (∀ ns ds, Q ns ds → Q' ns ds) → t rs Q') (ln : ∀ rs Q, t rs Q → rs.length = n)
    (hb : ∀ (f : Addr) (cdv : Value) (A : Around) (outer : List Env) (s : Shared) (H : Hp) (E : XK), Room k (A.deeper (envOfC qual (defScope st) s.heap.objs.size f cdv)) →
      ∃ tS, PDSs (cxOf CX0 P w K mg base N qual (defScope st) f cdv A outer s H E).nox (defBody st) tS ∧ ∀ xa rs (Q : List Str → List DL.D → Prop), t rs Q → tS { nx := endI Q xa C, rt := fun r δ => r = .dt .non ∧ endI Q xa C δ } (startD N (.oI xa C [] [] :: rs))) :
    InitX P w K mg base (k + 1) C x n t := by
  obtain ⟨f, fd, F, hm, hx, hbd⟩ := D.ex
  exact ⟨⟨f, fd, ps, fnI F S hn (fun cdv A outer s H E hr => hb f cdv A outer s H E hr), hm, hx, hbd⟩, mt, ln⟩
end
end DL

set_option Elab.async false
set_option linter.all false
set_option maxRecDepth 100000
set_option maxHeartbeats 4000000
/-! DLT: sheets as data; what a name means. -/
namespace DL
open PySem PySem.Spec PyProof.Rows L2
structure Col where
  h : Fm
  b : Fm
  f : Fm
def Col.d (c : Col) : D := .tup [c.h.d, c.b.d, c.f.d]
structure Col.Good (c : Col) : Prop where
  h : WholeF "head" c.h
  b : WholeF "body" c.b
  f : WholeF "foot" c.f
def sheetD (C : Addr) (cs : List Col) : D := .ins C ["its_columns"] [.lst (cs.map Col.d)]
def Rd.part : Rd → D
  | .nm c _ => c
  | .rg c _ _ => c
theorem rd_read {x : Rd} (h : x.ok) : readB x.d = true ∧ partOf x.d = x.part := by
  have hc : isCol x.part = true := by
    have hp : isPart x.part = true := by cases x <;> exact h.1
    rcases part_cases hp with e | ⟨i, e⟩ | ⟨i, e, _⟩ <;> rw [e] <;> rfl
  cases x with
  | nm c r => exact ⟨by show (isCol c && true) = true; rw [show isCol c = true from hc]; rfl, rfl⟩
  | rg c a b => exact ⟨by show (isCol c && true) = true; rw [show isCol c = true from hc]; rfl, rfl⟩
def lowOf : D → Int → Int
  | .int l, r => max 0 (r + l)
  | _, _ => 0
def highOf : D → Int → Int → Int
  | .int l, r, rows => min (rows - 1) (r + l)
  | _, _, rows => rows - 1
def cellsD (a lo hi : Int) : List D := (zs lo (hi + 1 - lo).toNat).map fun d => .tup [.int a, d]
def goalOf : D → Int → Int → Int
  | .tup [.str w, .int i], r, rows => if decide (w = "by") = true then r + i else rows - 1 - i
  | _, _, _ => 0
def meansL (a : Int) (r rows : Int) : Rd → List D
  | .rg _ lo hi => cellsD a (lowOf lo r) (highOf hi r rows)
  | .nm _ (.tup [.str w]) => [.tup [.int a, .int (if decide (w = "head") = true then -1 else rows)]]
  | .nm _ row => if (decide (-1 ≤ goalOf row r rows) && decide (goalOf row r rows < rows)) = true then [.tup [.int a, .int (goalOf row r rows)]] else []
def meansS (n : Nat) (c r rows : Int) (x : Rd) : Sl := match colOf x.part c with
  | .int a => if (decide (0 ≤ a) && decide (a < (n : Int))) = true then .ol (meansL a r rows x) else .dt .non
  | _ => .dt .non
/-- zs mapped -/
theorem zs_mem {lo : Int} {n : Nat} {d : D} (h : d ∈ zs lo n) : ∃ i : Int, d = .int i := by
  obtain ⟨i, hi⟩ := List.getElem?_of_mem h
  exact ⟨_, (zs_get n i lo d hi).2⟩
theorem gAll_of {ds : List D} {bs : List Bool} {δ : List Sl} {Q : QD} (e : blsOf ds = some bs) (q : Q (.dt (.bl (bs.all id))) δ) : gAll (.lst ds) δ Q := by
  show match blsOf ds with
    | some bs => Q (.dt (.bl (bs.all id))) δ
    | none => False
  rw [e]; exact q
theorem in_two {w a b : Str} (h : inV (.str w) [.str a, .str b] = true) : w = a ∨ w = b := by
  by_cases e1 : w = a
  · exact .inl e1
  · by_cases e2 : w = b
    · exact .inr e2
    · exfalso
      have z : inV (.str w) [.str a, .str b] = false := by
        unfold inV
        simp [eqV]
        exact ⟨fun z => e1 z.symm, fun z => e2 z.symm⟩
      rw [z] at h; cases h
theorem fEq_tup {xs : List D} {e : D} {b : Bool} {δ : List Sl} {Q : QD} (h1 : SeqAt.shaped (py (.tup xs)) = true) (h2 : SeqAt.shaped (py e) = true) (h3 : PyData.eqv (py (.tup xs)) (py e) = b) (q : Q (.dt (.bl b)) δ) : fEq (.tup xs) e δ Q := by
  refine ⟨h1, h2, ?_⟩
  rw [h3]; exact q
theorem lay_si {w : Str} {i : Int} (h : (py (.str w)).canLay0 = true) : SeqAt.shaped (py (.tup [.str w, .int i])) = true := by
  unfold SeqAt.shaped
  show (((py (.str w)).canLay0 && (true && true)) && _) = true
  rw [h]; rfl
end DL

set_option Elab.async false
set_option linter.all false
set_option maxRecDepth 100000
set_option maxHeartbeats 4000000
/-! DLU: exceptions of own classes with a field: raise, defs that may raise, try. -/
namespace DL
open PySem PySem.Spec PyProof.Rows L2
/-! ### raise C(e) -/
/-- C's own __init__(self, f): self.f = f -/
def spFld (C : Addr) (f : Str) : Sp := fun vs H Q _ => ∃ a y, vs = [.ref a, y] ∧ H a = some (exo a C none) ∧ ∀ dx, H dx = none → dx ≠ a → Q .non (upd (upd H dx (exd dx [(f, y)])) a (exo a C (some dx)))
structure ExcX (P : Program) (w : World) (K : PySem.W.Frag) (mg : Str → Option Value) (base : Heap) (k : Nat) (C : Addr) (x f : Str) : Prop where
  cls : OexC K C
  mg_ : mg x = some (.ref C)
  fld : PySem.W.findIn K (.ref C) f = some none
  ex : ∃ fI fd ps, PySem.W.findIn K (.ref C) "__init__" = some (some (.ref fI)) ∧ PySem.W.typeIn K (.ref fI) = some (.type "function") ∧ FnOk P w K mg base CX0 k fI fd ps (spFld C f) ∧ Binds K fd ps []
theorem exc_init {P : Program} {w : World} {K : PySem.W.Frag} {mg : Str → Option Value} {base : Heap} {C fI : Addr} {f qual x1 x2 : Str} {st : Stmt} {fd : FuncData} (T : OexC K C) (hno : PySem.W.findIn K (.ref C) f = some none) (F : Fun K "__init__" qual st fI fd) (S : FnScope [x1, x2] [x1, x2] (defScope st))
    (hb : ∀ X : Cx, X.N = [x1, x2] → X.env.scope = defScope st → PSs X (defBody st) (tOst X.K f (tVar 0) (tVar 1))) : FnOk P w K mg base CX0 1 fI fd [x1, x2] (spFld C f) :=
  F.ok S (fun vs H Q E h => by obtain ⟨a, y, rfl, _⟩ := h; rfl) fun cdv A outer s H vs Q E hr want => by
    refine ⟨_, hb _ rfl rfl, ?_⟩
    obtain ⟨a, y, rfl, e, q⟩ := want
    exact ⟨_, rfl, _, rfl, a, C, rfl, T, hno, .inl ⟨e, fun dx h1 h2 => q dx h1 h2⟩⟩
def tdRaise (C : Addr) (f : Str) (te : TD) : TDS := fun D δ => te δ fun r δ' => match fz r with
  | some d => D.ex C [f] [d] δ'
  | none => False
section
variable {X : Cx} {e : Expr} {te : TD} {C : Addr} {x f : Str} {k : Nat} {p pos pos2 : Pos}
theorem pds_raise (M : ExcX X.prog X.w X.K X.mg X.base k C x f) (hc : X.calm = true) (hr : Room (k + 1) X.A) (hg : Gl X x) (h : PD X e te) (hdb : (x == ("__debug__" : Str)) = false := by decide) (he : starEach [e] X.env = (false, eval e X.env) :: starEach [] X.env := by rfl) (hpl : (backTo pos (starEach [] X.env)).any (·.1) = false := by rfl) :
    PDS X (.Raise (some (.Call (.Name x p) [e] [] pos)) none pos2) (tdRaise C f te) := by
  obtain ⟨fI, fd, ps, iC, tI, F, hb⟩ := M.ex
  refine ⟨PS.weak (ps_raise hc (takes_WM X) (pmk_oex M.cls iC tI F hr hb .nil pass0 hg M.mg_ (pa_cons h.pe pa_nil he) hdb he hpl)) fun D σ H ⟨B, H0, G0, δ, G, R, q⟩ => ?_, fun D D' δ w q => h.mono _ _ _ q fun r δ' q => ?_⟩
  · refine ev_data h.mono (kk := fun d δ' => exW X B H0 G0 C [f] [d] δ') R q fun d δ1 y H1 G1 R1 s1 f1 hd hq => ?_
    refine ⟨(by decide : (1 : Nat) ≤ 1000), fun a ha => ?_⟩
    show spFld C f [.ref a, y] _ _ _
    refine ⟨a, y, rfl, upd_same, fun dx hdx ndx => ⟨rfl, dx, [(f, y)], upd_same, by rw [upd_ne ndx, upd_same], ?_, ?_⟩⟩
    · rw [upd_ne ndx] at hdx; exact hdx
    have h1 : H1 dx = none := by rw [upd_ne ndx] at hdx; exact hdx
    have eh : upd (del (upd (upd (upd H1 a (exo a C none)) dx (exd dx [(f, y)])) a (exo a C (some dx))) a) dx (.xd [(f, y)]) = upd H1 dx (.xd [(f, y)]) := by
      funext b
      by_cases hb : b = dx
      · rw [hb, upd_same, upd_same]
      · rw [upd_ne hb, upd_ne hb]
        by_cases hba : b = a
        · rw [hba, del_same, ha]
        · rw [del_ne hba, upd_ne hba, upd_ne hb, upd_ne hba]
    rw [eh]
    obtain ⟨n1, n2, n3⟩ := R1.newOwn h1
    exact hq σ _ G1 dx [y] (R1.laidO h1 trivial) rfl upd_same n1 (R1.sub.free h1) n2 n3 (.one hd)
  · cases er : fz r with
    | none => rw [er] at q; exact q
    | some d => rw [er] at q; exact w.ex _ _ _ _ q
end
/-! ### defs that may raise -/
abbrev TFE := List Sl → (Sl → Prop) → (Addr → List Str → List D → Prop) → Prop
def MonoE (t : TFE) : Prop := ∀ rs (Q Q' : Sl → Prop) (W W' : Addr → List Str → List D → Prop), t rs Q W → (∀ r, Q r → Q' r) → (∀ C ns ds, W C ns ds → W' C ns ds) → t rs Q' W'
structure RetX (K : PySem.W.Frag) (B : Bg) (H G H' G' : Hp) (dd : Addr) : Prop where
  gg : Same G G'
  gh : Same G' H'
  bag : ∀ b c, (b, c) ∈ B → BagOk H' G' b c
  fra : Fra B H H'
  sz : HSz H'
  gn : ∀ a o, G' a = some o → G a = some o ∨ H a = none
  dn : H dd = none
  gd : G' dd = none
def spE (K : PySem.W.Frag) (n : Nat) (t : TFE) : Sp := fun vs H Q E => vs.length = n ∧ ∃ B G rs, Same G H ∧ (∀ b c, (b, c) ∈ B → BagOk H G b c) ∧ HSz H ∧ ArgsOk K B G vs rs ∧
  t rs (fun r => ∀ v H' G', RetOk K B H G H' G' v r → Q v H') (fun C ns ds => ∀ H' G' dd xs, RetX K B H G H' G' dd → ns.length = xs.length → H' dd = some (.xd (ns.zip xs)) → DdA K G' xs ds → E (.ref C) (some dd) H')
section
variable {P : Program} {w : World} {K : PySem.W.Frag} {mg : Str → Option Value} {base : Heap} {x qual : Str} {st : Stmt} {f : Addr} {fd : FuncData} {N ps : List Str} {k n : Nat} {t : TFE}
theorem fnE (F : Fun K x qual st f fd) (S : FnScope N ps (defScope st)) (hn : ps.length = n)
    (hb : ∀ (cdv : Value) (A : Around) (outer : List Env) (s : Shared) (H : Hp) (E : XK), Room k (A.deeper (envOfC qual (defScope st) s.heap.objs.size f cdv)) →
      ∃ tS, PDSs (cxOf (L2.CX P w) P w K mg base N qual (defScope st) f cdv A outer s H E) (defBody st) tS ∧ ∀ rs (Q : Sl → Prop) (W : Addr → List Str → List D → Prop), t rs Q W → tS { nx := fun _ => Q (.dt .non), rt := fun r _ => Q r, ex := fun C ns ds _ => W C ns ds } (startD N rs)) :
    FnOk P w K mg base (L2.CX P w) (k + 1) f fd ps (spE K n t) :=
  F.okX S (fun vs H Q E h => h.1.trans hn.symm) fun cdv A outer s H vs Q E hr want => by
    obtain ⟨tS, h, le⟩ := hb cdv A outer s H E hr
    refine ⟨_, h.ps, ?_⟩
    obtain ⟨_, B, G, rs, sub, bag, sz, oks, q⟩ := want
    refine ⟨B, H, G, _, G, rel_start sub bag sz oks, h.mono _ _ _ ?_ (le rs _ _ q)⟩
    exact ⟨fun δ q σ' H' G' R' => q .non H' G' ⟨R'.g0, R'.sub, R'.bag, fun a o e n => R'.ent a o e n, R'.sz, R'.gn, .non, fun z => (nomatch z), fun z => (nomatch z)⟩,
      fun r δ q v σ' H' G' R' ok => q v H' G' ⟨R'.g0, R'.sub, R'.bag, fun a o e n => R'.ent a o e n, R'.sz, R'.gn, ok.1, ok.2.1, fun io a e => (ok.2.2 io a e).1⟩, fun _ q => q.elim, fun _ q => q.elim,
      fun C ns ds δ q σ' H' G' dd xs R' hl hd h0 gd nb no hA => WM.of (takes_of rfl rfl rfl rfl) (q H' G' dd xs ⟨R'.g0, R'.sub, R'.bag, fun a o e n => R'.ent a o e n, R'.sz, R'.gn, h0, gd⟩ hl hd hA)⟩
end
structure MthE (P : Program) (w : World) (K : PySem.W.Frag) (mg : Str → Option Value) (base : Heap) (k : Nat) (C : Addr) (m : Str) (n : Nat) (t : TFE) : Prop where
  ex : ∃ f fd ps, FnOk P w K mg base (L2.CX P w) k f fd ps (spE K n t) ∧ Cls K C ∧ Meth K C m f ∧ Binds K fd ps []
  mono : MonoE t
  len : ∀ rs Q W, t rs Q W → rs.length = n
theorem MthE.of {P : Program} {w : World} {K : PySem.W.Frag} {mg : Str → Option Value} {base : Heap} {m qual : Str} {st : Stmt} {N ps : List Str} {k n : Nat} {t : TFE} {C : Addr} (c : Cls K C) (D : Dfm K C m qual st ps) (S : FnScope N ps (defScope st)) (hn : ps.length = n) (mt : MonoE t) (ln : ∀ rs Q W, t rs Q W → rs.length = n)
    (hb : ∀ (f : Addr) (cdv : Value) (A : Around) (outer : List Env) (s : Shared) (H : Hp) (E : XK), Room k (A.deeper (envOfC qual (defScope st) s.heap.objs.size f cdv)) →
      ∃ tS, PDSs (cxOf (L2.CX P w) P w K mg base N qual (defScope st) f cdv A outer s H E) (defBody st) tS ∧ ∀ rs (Q : Sl → Prop) (W : Addr → List Str → List DL.D → Prop), t rs Q W → tS { nx := fun _ => Q (.dt .non), rt := fun r _ => Q r, ex := fun C ns ds _ => W C ns ds } (startD N rs)) :
    MthE P w K mg base (k + 1) C m n t := by
  obtain ⟨f, fd, F, hm, hbd⟩ := D.ex
  exact ⟨⟨f, fd, ps, fnE F S hn (fun cdv A outer s H E hr => hb f cdv A outer s H E hr), c, hm, hbd⟩, mt, ln⟩
/-! ### expressions that may raise -/
abbrev TDE := List Sl → QD → (Addr → List Str → List D → List Sl → Prop) → Prop
def MonoDE (t : TDE) : Prop := ∀ δ (Q Q' : QD) (W W' : Addr → List Str → List D → List Sl → Prop), t δ Q W → (∀ r δ', Q r δ' → Q' r δ') → (∀ C ns ds δ', W C ns ds δ' → W' C ns ds δ') → t δ Q' W'
def tyEx (X : Cx) (t : TDE) : TE := fun σ H Q => ∃ B H0 G0 δ G, Rel X.K B H0 G0 H σ δ G ∧ t δ (Aft X.K B H0 G0 H σ G Q) (exW X B H0 G0)
structure PDE (X : Cx) (e : Expr) (t : TDE) : Prop where
  pe : PE X e (tyEx X t)
  mono : MonoDE t
def tdMethE (C : Addr) (m : Str) (t : TFE) (to : TD) (u : TDA) : TDE := fun δ Q W => to δ fun r δ1 => match fz r with
  | some (.ins C' ns vs) => C' = C ∧ m ∉ ns ∧ u δ1 fun rs δ2 => t (.dt (.ins C' ns vs) :: rs) (fun r => Q r δ2) (fun C ns ds => W C ns ds δ2)
  | _ => False
def tMethS (C : Addr) (m : Str) (sp : Sp) (E : L2.St → XK) (ta : TE) (t : TA) : TE := fun σ H Q => ta σ H fun x H1 => ∃ a dx fs, x = .ref a ∧ H1 a = some (.ins C dx fs) ∧ fs.lookup m = none ∧ t σ H1 fun vs H2 => sp (x :: vs) H2 Q (E σ)
section
variable {X : Cx} {e o : Expr} {es : List Expr} {t : TD} {u : TDA} {m : Str} {C : Addr} {pos apos : Pos}
theorem pe_methAt {CX : CXT} {k : Nat} {f : Addr} {fd : FuncData} {ps : List Str} {sp : Sp} {E : L2.St → XK} {ta : TE} {tA : TA} {pl : Sem Bool} (he : PE X o ta) (c : Cls X.K C) (hm : Meth X.K C m f) (F : FnOk X.prog X.w X.K X.mg X.base CX k f fd ps sp) (hr : Room k X.A) (hb : Binds X.K fd ps []) (hx : ∀ σ, PassesAt CX X σ (E σ)) (ha : PA X (e :: es) tA)
    (hst : starEach (e :: es) X.env = (false, eval e X.env) :: starEach es X.env := by rfl) (hpl : (backTo pos (starEach es X.env)).any (·.1) = false := by rfl)
    (ht : eval (.Call (.Attribute o m apos) (e :: es) [] pos) X.env = (do
      let ov ← eval o X.env
      standAt apos.atName
      let (f, first) ← holding [ov] (getMethod ov m pl)
      callWith pos f first (backTo pos (starEach (e :: es) X.env)) (backToKw pos (keywordEach [] X.env))) := by rfl) :
    PE X (.Call (.Attribute o m apos) (e :: es) [] pos) (tMethS C m sp E ta tA) := by
  refine ⟨fun pins s σ H Q I h => ?_⟩
  refine PySem.W.methodCall_KW (pl := pl) (thn (he.run pins s σ H _ I h) fun u s1 ⟨x, H1, I1, rx, a, dx, fs, ex, ea, l, q⟩ => ?_) ht
  subst ex
  obtain rfl : u = Value.ref a := rx
  refine getmeth_ok I1 ea c hm l ?_
  refine PySem.W.callWith_K (first := [.ref a]) (h₀ := X.base) I.ok.mod.kin hm.kp (thn (ha.run pos pins s1 σ H1 _ I1 q) fun us s2 ⟨vs, H2, I2, r, q2⟩ => ⟨I2.kIn, ?_⟩) hst hpl
  exact run_fnS (us := .ref a :: us) (vs := .ref a :: vs) F hr hb (hx σ) I2 (.cons rfl r) q2
theorem pde_meth {t' : TFE} {k n : Nat} {pl : Sem Bool} (M : MthE X.prog X.w X.K X.mg X.base k C m n t') (hr : Room k X.A) (ho : PD X o t) (hu : PDA X (e :: es) u)
    (hst : starEach (e :: es) X.env = (false, eval e X.env) :: starEach es X.env := by rfl) (hpl : (backTo pos (starEach es X.env)).any (·.1) = false := by rfl)
    (ht : eval (.Call (.Attribute o m apos) (e :: es) [] pos) X.env = (do
      let ov ← eval o X.env
      standAt apos.atName
      let (f, first) ← holding [ov] (getMethod ov m pl)
      callWith pos f first (backTo pos (starEach (e :: es) X.env)) (backToKw pos (keywordEach [] X.env))) := by rfl) :
    PDE X (.Call (.Attribute o m apos) (e :: es) [] pos) (tdMethE C m t' t u) := by
  obtain ⟨f, fd, ps, F, c, hm, hb⟩ := M.ex
  refine ⟨PE.weak (pe_methAt (E := WE (WM X)) ho.pe c hm F hr hb (fun σ => passAt (takes_WM X) σ) hu.pa hst hpl ht) fun σ H Q ⟨B, H0, G0, δ, G, R, q⟩ => ?_, fun δ Q Q' W W' q w w' => ho.mono _ _ _ q fun r δ' q => ?_⟩
  · refine ev_data ho.mono (kk := fun d δ1 => match d with
      | .ins C' ns vs => C' = C ∧ m ∉ ns ∧ u δ1 fun rs δ2 => t' (.dt (.ins C' ns vs) :: rs) (fun r => Aft X.K B H0 G0 H σ G Q r δ2) (fun C ns ds => exW X B H0 G0 C ns ds δ2)
      | _ => False) R (ho.mono _ _ _ q fun r δ' q => ?_) fun d δ1 v H1 G1 R1 s1 f1 hd hq => ?_
    · cases er : fz r with
      | none => rw [er] at q; exact q
      | some d => rw [er] at q; cases d <;> first | exact q | exact q.elim
    · split at hq
      · rename_i ns ds
        obtain ⟨rfl, hm', q2⟩ := hq
        cases hd with
        | @ins a _ dx _ xs _ h0 h1 h2 =>
          refine ⟨a, dx, _, rfl, R1.sub _ _ h1, lk_none hm', B, H0, G0, δ1, G1, R1, hu.mono _ _ _ q2 fun rs δ2 q3 vs H2 G2 R2 s2 f2 oks => ?_⟩
          show spE X.K n t' (.ref a :: vs) H2 Q (WE (WM X) σ)
          have hd2 : Dd X.K G2 (.ref a) (.ins _ ns ds) := Dd.mono s2 _ _ (.ins h0 h1 h2)
          refine ⟨?_, B, G2, .dt (.ins _ ns ds) :: rs, R2.sub, R2.bag, R2.sz, ⟨hd2, oks⟩, M.mono _ _ _ _ _ q3 (fun r q v H' G' k => ?_) fun C ns ds q H' G' dd xs k hl hd hA => ?_⟩
          · have z := M.len _ _ _ q3
            rw [List.length_cons] at z ⊢
            rw [oks.len]; exact z
          · obtain ⟨R3, ok⟩ := R2.call k
            exact q v H' G' R3 ((s1.trans s2).trans k.gg) ((f1.trans f2).trans k.fra) ok
          · have kk : RetOk X.K B H2 G2 H' G' .non (.dt .non) := ⟨k.gg, k.gh, k.bag, k.fra, k.sz, k.gn, .non, fun z => (nomatch z), fun z => (nomatch z)⟩
            obtain ⟨R3, _⟩ := R2.call kk
            obtain ⟨n1, n2, n3⟩ := R2.newOwn k.dn
            exact q σ H' G' dd xs R3 hl hd n1 k.gd n2 n3 hA
      · exact hq.elim
  · cases er : fz r with
    | none => rw [er] at q; exact q
    | some d =>
      rw [er] at q
      cases d <;> first | exact q.elim | skip
      obtain ⟨h1, h2, h3⟩ := q
      exact ⟨h1, h2, hu.mono _ _ _ h3 fun rs δ2 q => M.mono _ _ _ _ _ q (fun r q => w _ _ q) fun C ns ds q => w' _ _ _ _ q⟩
end
end DL

set_option Elab.async false
set_option linter.all false
set_option maxRecDepth 100000
set_option maxHeartbeats 4000000
/-! DLV: try with several clauses, some of them with a name; the caught exception's field. -/
namespace DL
open PySem PySem.Spec PyProof.Rows L2
/-- one clause: the class, the slot of its name, the suite's reading -/
structure Cl where
  c : Value
  i : Option Nat
  ts : Addr → Value → Option Addr → TS
/-- the ends of a suite whose name goes away behind it -/
def endsN (i : Nat) (D : Ends) : Ends := { nx := fun σ' H' => D.nx (σ'.set i none) H', rt := D.rt, bk := fun σ' H' => D.bk (σ'.set i none) H', ct := fun σ' H' => D.ct (σ'.set i none) H' }
def wCl (K : PySem.W.Frag) (Wout : WX) (D : Ends) : List Cl → WX
  | [] => Wout
  | q :: r => fun cls d σ H => ∃ b, PySem.W.exmOne K cls q.c = some b ∧ (b = true → ∀ a, H a = none → match q.i with
      | none => q.ts a cls d D σ H
      | some i => q.ts a cls d (endsN i D) (σ.set i (some (.ref a))) H) ∧ (b = false → wCl K Wout D r cls d σ H)
inductive ClsOk (X : Cx) : List ExceptHandler → List Cl → Prop
  | nil : ClsOk X [] []
  | bare {x : Str} {c : Value} {ts : Addr → Value → Option Addr → TS} {s0 : Stmt} {su : List Stmt} {np hp : Pos} {hs : List ExceptHandler} {l : List Cl} (hc : Names X x c)
      (hsu : ∀ (a : Addr) (oe : Obj) (cls : Value) (d : Option Addr) (pn : List (Addr × Obj)), Zc cls d oe → (∃ vs, oe.data = .fields vs) → PSs (X.suite a ((a, oe) :: pn)) (s0 :: su) (ts a cls d)) (r : ClsOk X hs l) :
      ClsOk X (.ExceptHandler (some (.Name x np)) none (s0 :: su) hp :: hs) (⟨c, none, ts⟩ :: l)
  | named {x n : Str} {i : Nat} {c : Value} {ts : Addr → Value → Option Addr → TS} {s0 : Stmt} {su : List Stmt} {np hp : Pos} {hs : List ExceptHandler} {l : List Cl} (hi : X.N[i]? = some n) (hl : X.env.kindOf n = some .local) (hc : Names X x c)
      (hsu : ∀ (a : Addr) (oe : Obj) (cls : Value) (d : Option Addr) (pn : List (Addr × Obj)), Zc cls d oe → (∃ vs, oe.data = .fields vs) → PSs (X.suite a ((a, oe) :: pn)) (s0 :: su) (ts a cls d)) (r : ClsOk X hs l) :
      ClsOk X (.ExceptHandler (some (.Name x np)) (some n) (s0 :: su) hp :: hs) (⟨c, some i, ts⟩ :: l)
section
variable {X : Cx} {body : List Stmt} {h0 : ExceptHandler} {hs : List ExceptHandler} {l : List Cl} {pos : Pos} {tb : WX → TS} {Wout : WX}
/-- the flow of a suite, seen from the try -/
theorem flow_up {Y : Cx} {pins pins' : List (Addr × Obj)} {D : Ends} {fl : Flow} {s : Shared} (up : ∀ {σ : L2.St} {H : Hp}, Inv Y pins' σ H s → Inv X pins σ H s) (h : SP Y pins' D fl s) : SP X pins D fl s := by
  cases fl with
  | next => obtain ⟨σ1, H1, J, q⟩ := h; exact ⟨σ1, H1, up J, q⟩
  | brk => obtain ⟨σ1, H1, J, q⟩ := h; exact ⟨σ1, H1, up J, q⟩
  | cont => obtain ⟨σ1, H1, J, q⟩ := h; exact ⟨σ1, H1, up J, q⟩
  | ret u => obtain ⟨v, σ1, H1, J, r, q⟩ := h; exact ⟨v, σ1, H1, up J, r, q⟩
theorem ps_tryC (hst : X.stack = X.env :: X.outer) (hfr : X.env.frame = some X.env.locals) (hN : X.N.Nodup) (tk : Takes X Wout)
    (hb : ∀ (W : WX) (pn : List (Addr × Obj)) (xe : Value → Shared → Prop), Takes (X.tr pn xe) W → PassesOwn (model X.prog X.w) X.A X.env xe → PSs (X.tr pn xe) body (tb W))
    (hh : ClsOk X (h0 :: hs) l) : PS X (.Try body (h0 :: hs) [] [] pos) (fun D σ H => tb (wCl X.K Wout D l) D σ H) := by
  refine ⟨fun pins s σ H D I want => ?_⟩
  have ok := I.ok
  have frames : X.A.frames = some (X.env :: X.outer) := by rw [ok.frames, hst]
  refine wpAny_Try_except (wpAny_mono ((hb (wCl X.K Wout D l) (X.pn ++ pins) (fun e s₁ => wpAny (model X.prog X.w) X.A (noteFrame e X.env) (fun _ s₂ => wpAny (model X.prog X.w) X.A (setFlight e none) (fun _ s₃ =>
    wpAny (model X.prog X.w) X.A (handleBy e X.env (h0 :: hs)) (SP X pins D) X.xe s₃) X.xe s₂) X.xe s₁) ?_ PassesOwn.looking).run [] s σ H D (I.toTry _) want) ?_ fun _ _ he => he)
  · -- what the body raises is looked at
    rintro u s' ⟨a, G, sI, pins', σ', H', cls, d, rfl, J', gr, up, sky, na, os, ag, wish⟩
    have J : Inv X pins σ' H' sI := J'.ofTry ok
    rw [show (X.tr (X.pn ++ pins) _).stack = X.env :: X.outer from hst] at sky
    refine Sky.land Zc.steady frames hfr sky fun hp fl up3 => ?_
    have JL : ∀ {h4 : Heap}, G.StaysIn h4 → sI.heap.UpToSlots h4 → Inv X pins σ' H' { s' with heap := h4 } := fun st u4 => J.landed gr st u4 os ag
    have J3 := JL fl.1 (up.trans up3)
    obtain ⟨oe, vs, he, hz, hd⟩ := fl.there
    have apart : a ∉ frs (X.env :: X.outer) := fun hm => by
      obtain ⟨_, o', e', nf⟩ := fl.2.2.1.mem hm
      rw [he] at e'; cases e'
      exact nf _ hd
    have nL : a ≠ X.env.locals := fun z => apart (List.mem_filterMap.mpr ⟨X.env, List.mem_cons_self, by rw [hfr, z]⟩)
    have nF : a ∉ X.fs := fun hm => by
      obtain ⟨e, hm1, hm2⟩ := List.mem_filterMap.mp hm
      exact apart (List.mem_filterMap.mpr ⟨e, List.mem_cons_of_mem _ hm1, hm2⟩)
    have S3 := J3.suite he hd na nL nF
    have LT : PySem.W.Looks (model X.prog X.w) hp (typeOf (.ref a)) cls := fun A Q E s k q => wpAny_typeOf_ref (k _ _ he) (by rw [hz.1]; exact q)
    have named : ∀ {x : Str} {c : Value} {np : Pos} {Q : Value → Shared → Prop} {E : Value → Shared → Prop}, Names X x c → Q c { s' with heap := hp } → wpAny (model X.prog X.w) (X.A.mark (some (.ref a))) (eval (.Name x np) X.env) Q E { s' with heap := hp } := fun {x c np Q E} hc q => by
      obtain ⟨hg, hdbg, hm | ⟨hm, hv, hnn⟩⟩ := hc
      · exact ld_glob (X := X.suite a ((a, oe) :: (X.pn ++ pins))) S3 hg hm q hdbg
      · exact ld_blt (X := X.suite a ((a, oe) :: (X.pn ++ pins))) S3 hg hm hv q hnn hdbg
    have each : ∀ {hds : List ExceptHandler} {cs : List Cl}, ClsOk X hds cs → wCl X.K Wout D cs cls d σ' H' → wpAny (model X.prog X.w) X.A (handleBy (.ref a) X.env hds) (SP X pins D) X.xe { s' with heap := hp } := by
      intro hds cs hk
      induction hk with
      | nil =>
        intro wish
        refine wpAny_handleBy_nil ?_
        have out : wpAny (model X.prog X.w) X.A (setFlight (.ref a) X.env.frame) (fun _ s4 => wpAny (model X.prog X.w) X.A (throw (.ref a) : Sem Flow) (SP X pins D) X.xe s4) X.xe { s' with heap := hp } := by
          rw [hfr]
          exact HandSPX.setFlight_upZ fl fun h4 hh4 up4 => wpAny_throw (tk _ _ ⟨a, G, sI, pins, σ', H', cls, d, rfl, J, gr, (up.trans up3).trans up4, .inr (.inr (by rw [hst]; exact hh4)), na, os, ag, wish⟩)
        obtain ⟨_, _, _, oe2, vs2, T2, _, _, he2, _, hd2, h12, _⟩ := id fl
        unfold PySem.passOn
        refine wpAny_bind (wpAny_field he2 hd2 h12 ?_)
        rw [if_neg (by simp : ¬ ((Value.ref T2 == Value.none) = true))]
        first
          | exact wpAny_bind (wpAny_pure (wpAny_bind out))
          | exact wpAny_bind out
      | bare hc hsu _ ih =>
        rintro ⟨b, hb1, hyes, hno⟩
        refine wpAny_handleBy_cons (codeAny_handlers_test (named hc ((PySem.W.exm_one (M := model X.prog X.w) J3.kIn LT hb1).here ?_))) (fun z => nomatch z)
        cases b with
        | false => exact ih (hno rfl)
        | true =>
          refine codeAny_handlers_suite (HandSPX.lands_againZ fl fun h4 fl4 up4 => ?_)
          obtain ⟨oe4, vs4, he4, hz4, hd4⟩ := fl4.there
          have S4 := (JL fl4.1 ((up.trans up3).trans up4)).suite he4 hd4 na nL nF
          exact wpAny_mono ((hsu a oe4 cls d (X.pn ++ pins) hz4 ⟨_, hd4⟩).run [] _ _ H' _ S4 (hyes rfl a na)) (fun _ _ hsp => flow_up (fun S6 => S6.unsuite ok) hsp) fun _ _ z => z.elim
      | @named x n i c ts s0 su np hpos hs2 l2 hi hl hc hsu _ ih =>
        rintro ⟨b, hb1, hyes, hno⟩
        refine wpAny_handleBy_cons (codeAny_handlers_test (named hc ((PySem.W.exm_one (M := model X.prog X.w) J3.kIn LT hb1).here ?_))) (fun z => nomatch z)
        cases b with
        | false => exact ih (hno rfl)
        | true =>
          refine codeAny_handlers_suite_as (HandSPX.lands_againZ fl fun h4 fl4 up4 => ?_)
          obtain ⟨oe4, vs4, he4, hz4, hd4⟩ := fl4.there
          have S4 := (JL fl4.1 ((up.trans up3).trans up4)).suite he4 hd4 na nL nF
          refine store_ok (X := X.suite a ((a, oe4) :: (X.pn ++ pins))) (v := .ref a) S4 hN hi (.inl hl) rfl (fun s5 S5 => ?_) (.inr hl)
          refine wpAny_mono ((hsu a oe4 cls d (X.pn ++ pins) hz4 ⟨_, hd4⟩).run [] s5 _ H' _ S5 (hyes rfl a na)) (fun f s6 hsp => ?_) fun _ _ z => z.elim
          have gone : ∀ {σ6 : L2.St} {H6 : Hp} {Q : Shared → Prop}, Inv (X.suite a ((a, oe4) :: (X.pn ++ pins))) [] σ6 H6 s6 → (∀ s7, Inv X pins (σ6.set i none) H6 s7 → Q s7) →
              wpAny (model X.prog X.w) X.A (do bindName X.env n .none; unbindBehindTheSuite X.env n hpos) (fun _ s7 => Q s7) X.xe s6 := fun S6 hq => gone_ok (S6.unsuite ok) hN hi hl hq
          cases f with
          | next => obtain ⟨_, _, S6, q6⟩ := hsp; exact gone S6 fun s7 J7 => ⟨_, _, J7, q6⟩
          | brk => obtain ⟨_, _, S6, q6⟩ := hsp; exact gone S6 fun s7 J7 => ⟨_, _, J7, q6⟩
          | cont => obtain ⟨_, _, S6, q6⟩ := hsp; exact gone S6 fun s7 J7 => ⟨_, _, J7, q6⟩
          | ret u => obtain ⟨_, _, _, S6, r6, q6⟩ := hsp; exact gone S6 fun s7 J7 => ⟨_, _, _, J7, r6, q6⟩
    exact each hh wish
  · rintro f s1 hsp
    have hsp2 : SP X pins D f s1 := flow_up (fun J' => J'.ofTry ok) hsp
    cases f with
    | next => exact wpAny_execs_nil hsp2
    | brk => exact hsp2
    | cont => exact hsp2
    | ret u => exact hsp2
end
end DL

set_option Elab.async false
set_option linter.all false
set_option maxRecDepth 100000
set_option maxHeartbeats 4000000
/-! DLW: try over data. -/
namespace DL
open PySem PySem.Spec PyProof.Rows L2
def endsW (K : PySem.W.Frag) (W : WX) (B : Bg) (H0 G0 : Hp) (D : Ends) : EndsD where
  nx := fun δ' => ∀ σ' H' G', Rel K B H0 G0 H' σ' δ' G' → D.nx σ' H'
  rt := fun r δ' => ∀ v σ' H' G', Rel K B H0 G0 H' σ' δ' G' → ResOk K B H0 H' σ' δ' G' v r → D.rt v H'
  bk := fun δ' => ∀ σ' H' G', Rel K B H0 G0 H' σ' δ' G' → D.bk σ' H'
  ct := fun δ' => ∀ σ' H' G', Rel K B H0 G0 H' σ' δ' G' → D.ct σ' H'
  ex := fun C ns ds δ' => ∀ σ' H' G' dd xs, Rel K B H0 G0 H' σ' δ' G' → ns.length = xs.length → H' dd = some (.xd (ns.zip xs)) → H0 dd = none → G' dd = none → NotB B dd → (∀ i, ¬ Own σ' δ' i dd) → DdA K G' xs ds → W (.ref C) (some dd) σ' H'
def tyW (K : PySem.W.Frag) (W : WX) (t : TDS) : TS := fun D σ H => ∃ B H0 G0 δ G, Rel K B H0 G0 H σ δ G ∧ t (endsW K W B H0 G0 D) δ
abbrev wNo : WX := fun _ _ _ _ => False
theorem pss_tyW {X : Cx} {sts : List Stmt} {t : TDS} {W : WX} (h : PDSs X sts t) (le : ∀ C d σ H, W (.ref C) (some d) σ H → WM X (.ref C) (some d) σ H) : PSs X sts (tyW X.K W t) :=
  PSs.weak h.ps fun D σ H ⟨B, H0, G0, δ, G, R, q⟩ => ⟨B, H0, G0, δ, G, R, h.mono (endsW X.K W B H0 G0 D) (endsOf X B H0 G0 D) _ ⟨fun _ q => q, fun _ _ q => q, fun _ q => q, fun _ q => q, fun C ns ds δ' q σ' H' G' dd xs R' h1 h2 h3 h4 h5 h6 h7 => le _ _ _ _ (q σ' H' G' dd xs R' h1 h2 h3 h4 h5 h6 h7)⟩ q⟩
structure ClD where
  c : Value
  i : Option Nat
  th : Addr → Value → Option Addr → TDS
def endsS (D : EndsD) : EndsD := { D with ex := fun _ _ _ _ => False }
def endsSN (i : Nat) (D : EndsD) : EndsD := { nx := fun δ => D.nx (δ.set i .no), rt := D.rt, bk := fun δ => D.bk (δ.set i .no), ct := fun δ => D.ct (δ.set i .no), ex := fun _ _ _ _ => False }
def disp (K : PySem.W.Frag) (D : EndsD) : List ClD → Addr → List Str → List DL.D → List Sl → Prop
  | [], C, ns, ds, δ => D.ex C ns ds δ
  | q :: r, C, ns, ds, δ => ∃ b, PySem.W.exmOne K (.ref C) q.c = some b ∧ (b = true → ∀ a dd, match q.i with
      | none => q.th a (.ref C) (some dd) (endsS D) δ
      | some i => q.th a (.ref C) (some dd) (endsSN i D) (δ.set i (.xcp a dd C ns ds))) ∧ (b = false → disp K D r C ns ds δ)
def tdTry (K : PySem.W.Frag) (tb : TDS) (cs : List ClD) : TDS := fun D δ => tb { D with ex := disp K D cs } δ
theorem le_S {D D' : EndsD} (w : EndsD.le D D') : EndsD.le (endsS D) (endsS D') := ⟨w.nx, w.rt, w.bk, w.ct, fun _ _ _ _ q => q⟩
theorem le_SN {i : Nat} {D D' : EndsD} (w : EndsD.le D D') : EndsD.le (endsSN i D) (endsSN i D') := ⟨fun _ q => w.nx _ q, w.rt, fun _ q => w.bk _ q, fun _ q => w.ct _ q, fun _ _ _ _ q => q⟩
theorem disp_mono {K : PySem.W.Frag} {D D' : EndsD} (w : EndsD.le D D') : ∀ {cs : List ClD}, (∀ q ∈ cs, ∀ a c d, MonoS (q.th a c d)) → ∀ C ns ds δ, disp K D cs C ns ds δ → disp K D' cs C ns ds δ
  | [], _, C, ns, ds, δ, h => w.ex _ _ _ _ h
  | q :: r, m, C, ns, ds, δ, ⟨b, e, h1, h2⟩ => ⟨b, e, fun hb a dd => by
      have z := h1 hb a dd
      cases e2 : q.i with
      | none => rw [e2] at z; exact m q List.mem_cons_self _ _ _ _ _ _ (le_S w) z
      | some i => rw [e2] at z; exact m q List.mem_cons_self _ _ _ _ _ _ (le_SN w) z, fun hb => disp_mono w (fun q hq => m q (List.mem_cons_of_mem _ hq)) C ns ds δ (h2 hb)⟩
def clOf (K : PySem.W.Frag) (q : ClD) : Cl := ⟨q.c, q.i, fun a cls d => tyW K wNo (q.th a cls d)⟩
theorem disp_run {X : Cx} {B : Bg} {H0 G0 : Hp} {D : Ends} {C : Addr} {ns : List Str} {ds : List DL.D} {δ' : List Sl} : ∀ {cs : List ClD}, (∀ q ∈ cs, ∀ a c d, MonoS (q.th a c d)) → disp X.K (endsOf X B H0 G0 D) cs C ns ds δ' → ∀ σ' H' G' dd xs, Rel X.K B H0 G0 H' σ' δ' G' → ns.length = xs.length → H' dd = some (.xd (ns.zip xs)) → H0 dd = none → G' dd = none → NotB B dd → (∀ i, ¬ Own σ' δ' i dd) → DdA X.K G' xs ds →
    wCl X.K (WM X) D (cs.map (clOf X.K)) (.ref C) (some dd) σ' H'
  | [], _, h, σ', H', G', dd, xs, R', h1, h2, h3, h4, h5, h6, h7 => h σ' H' G' dd xs R' h1 h2 h3 h4 h5 h6 h7
  | q :: r, m, ⟨b, e, k1, k2⟩, σ', H', G', dd, xs, R', h1, h2, h3, h4, h5, h6, h7 => by
    refine ⟨b, e, fun hb a na => ?_, fun hb => disp_run (fun q hq => m q (List.mem_cons_of_mem _ hq)) (k2 hb) σ' H' G' dd xs R' h1 h2 h3 h4 h5 h6 h7⟩
    have z := k1 hb a dd
    have mq := m q List.mem_cons_self a (.ref C) (some dd)
    show match q.i with
      | none => tyW X.K wNo (q.th a (.ref C) (some dd)) D σ' H'
      | some i => tyW X.K wNo (q.th a (.ref C) (some dd)) (endsN i D) (σ'.set i (some (.ref a))) H'
    cases e2 : q.i with
    | none =>
      rw [e2] at z
      exact ⟨B, H0, G0, δ', G', R', mq (endsS (endsOf X B H0 G0 D)) (endsW X.K wNo B H0 G0 D) _ ⟨fun _ q => q, fun _ _ q => q, fun _ q => q, fun _ q => q, fun _ _ _ _ q => q.elim⟩ z⟩
    | some i =>
      rw [e2] at z
      obtain ⟨R2, sG⟩ := R'.share h2 h4 h3 h5 h6
      have R3 := R2.assign (v := .ref a) (r := .xcp a dd C ns ds) ⟨⟨rfl, xs, h1, upd_same, DdA.mono sG _ _ h7⟩, fun z => (nomatch z), fun z => (nomatch z)⟩ i
      have gone : ∀ {σ2 : L2.St} {δ2 : List Sl} {H2 G2 : Hp}, Rel X.K B H0 G0 H2 σ2 δ2 G2 → Rel X.K B H0 G0 H2 (σ2.set i none) (δ2.set i .no) G2 := fun R4 => R4.wipes [i]
      exact ⟨B, H0, G0, _, _, R3, mq (endsSN i (endsOf X B H0 G0 D)) (endsW X.K wNo B H0 G0 (endsN i D)) _ ⟨fun _ q σ2 H2 G2 R4 => q _ _ _ (gone R4), fun _ _ q => q, fun _ q σ2 H2 G2 R4 => q _ _ _ (gone R4), fun _ q σ2 H2 G2 R4 => q _ _ _ (gone R4), fun _ _ _ _ q => q.elim⟩ z⟩
inductive ClsD (X : Cx) : List ExceptHandler → List ClD → Prop
  | nil : ClsD X [] []
  | bare {x : Str} {c : Value} {th : Addr → Value → Option Addr → TDS} {s0 : Stmt} {su : List Stmt} {np hp : Pos} {hs : List ExceptHandler} {l : List ClD} (hc : Names X x c)
      (hsu : ∀ (a : Addr) (oe : Obj) (cls : Value) (d : Option Addr) (pn : List (Addr × Obj)), Zc cls d oe → (∃ vs, oe.data = .fields vs) → PDSs (X.suite a ((a, oe) :: pn)) (s0 :: su) (th a cls d)) (mt : ∀ a c d, MonoS (th a c d)) (r : ClsD X hs l) :
      ClsD X (.ExceptHandler (some (.Name x np)) none (s0 :: su) hp :: hs) (⟨c, none, th⟩ :: l)
  | named {x n : Str} {i : Nat} {c : Value} {th : Addr → Value → Option Addr → TDS} {s0 : Stmt} {su : List Stmt} {np hp : Pos} {hs : List ExceptHandler} {l : List ClD} (hi : X.N[i]? = some n) (hl : X.env.kindOf n = some .local) (hc : Names X x c)
      (hsu : ∀ (a : Addr) (oe : Obj) (cls : Value) (d : Option Addr) (pn : List (Addr × Obj)), Zc cls d oe → (∃ vs, oe.data = .fields vs) → PDSs (X.suite a ((a, oe) :: pn)) (s0 :: su) (th a cls d)) (mt : ∀ a c d, MonoS (th a c d)) (r : ClsD X hs l) :
      ClsD X (.ExceptHandler (some (.Name x np)) (some n) (s0 :: su) hp :: hs) (⟨c, some i, th⟩ :: l)
theorem ClsD.ok {X : Cx} {hs : List ExceptHandler} {l : List ClD} (h : ClsD X hs l) : ClsOk X hs (l.map (clOf X.K)) ∧ ∀ q ∈ l, ∀ a c d, MonoS (q.th a c d) := by
  induction h with
  | nil => exact ⟨.nil, fun q hq => (List.not_mem_nil hq).elim⟩
  | bare hc hsu mt r ih =>
    refine ⟨.bare hc (fun a oe cls d pn hz hf => pss_tyW (hsu a oe cls d pn hz hf) fun _ _ _ _ z => z.elim) ih.1, fun q hq => ?_⟩
    rcases List.mem_cons.mp hq with rfl | hq
    · exact mt
    · exact ih.2 q hq
  | named hi hl hc hsu mt r ih =>
    refine ⟨.named hi hl hc (fun a oe cls d pn hz hf => pss_tyW (hsu a oe cls d pn hz hf) fun _ _ _ _ z => z.elim) ih.1, fun q hq => ?_⟩
    rcases List.mem_cons.mp hq with rfl | hq
    · exact mt
    · exact ih.2 q hq
section
variable {X : Cx} {body : List Stmt} {h0 : ExceptHandler} {hs : List ExceptHandler} {cs : List ClD} {tb : TDS} {pos : Pos}
theorem pds_try (hst : X.stack = X.env :: X.outer) (hfr : X.env.frame = some X.env.locals) (hN : X.N.Nodup)
    (hb : ∀ (pn : List (Addr × Obj)) (xe : Value → Shared → Prop), PassesOwn (model X.prog X.w) X.A X.env xe → PDSs (X.tr pn xe) body tb) (mb : MonoS tb) (hc : ClsD X (h0 :: hs) cs) : PDS X (.Try body (h0 :: hs) [] [] pos) (tdTry X.K tb cs) := by
  obtain ⟨hok, mq⟩ := hc.ok
  refine ⟨PS.weak (ps_tryC (tb := fun W => tyW X.K W tb) hst hfr hN (takes_WM X) (fun W pn xe tk po => pss_tyW (X := X.tr pn xe) (hb pn xe po) fun _ _ _ _ z => WM.of tk z) hok) fun D σ H ⟨B, H0, G0, δ, G, R, q⟩ => ?_, fun D D' δ w q => mb { D with ex := disp X.K D cs } { D' with ex := disp X.K D' cs } _ ⟨w.nx, w.rt, w.bk, w.ct, fun C ns ds δ' z => disp_mono w mq C ns ds δ' z⟩ q⟩
  exact ⟨B, H0, G0, δ, G, R, mb { endsOf X B H0 G0 D with ex := disp X.K (endsOf X B H0 G0 D) cs } (endsW X.K (wCl X.K (WM X) D (cs.map (clOf X.K))) B H0 G0 D) _ ⟨fun _ q => q, fun _ _ q => q, fun _ q => q, fun _ q => q, fun C ns ds δ' z => disp_run mq z⟩ q⟩
end
/-! ### e.f in a suite -/
def tdXf (a : Addr) (cls : Value) (d : Option Addr) (C : Addr) (f : Str) (i : Nat) : TD := fun δ Q => match δ[i]? with
  | some (.xcp a' dd C' ns ds) => a' = a ∧ cls = .ref C ∧ C' = C ∧ d = some dd ∧ ∃ dat, lk f ns ds = some dat ∧ Q (.dt dat) δ
  | _ => False
theorem pd_xf {X : Cx} {a C : Addr} {oe : Obj} {cls : Value} {d : Option Addr} {pn : List (Addr × Obj)} {e : Expr} {pos : Pos} {f : Str} {i : Nat} (T : XfC X.K C) (hno : PySem.W.findIn X.K (.ref C) f = some none)
    (hz : Zc cls d oe) (hf : ∃ vs, oe.data = .fields vs) (he : PE (X.suite a ((a, oe) :: pn)) e (tVar i)) (hb : attributeBase e f X.env (eval e X.env) = eval e X.env := by rfl) :
    PD (X.suite a ((a, oe) :: pn)) (.Attribute e f pos) (tdXf a cls d C f i) := by
  refine ⟨PE.weak (pe_xf T hno hz hf he hb) fun σ H Q ⟨B, H0, G0, δ, G, R, q⟩ => ?_, fun δ Q Q' q w => ?_⟩
  · unfold tdXf at q
    split at q
    · rename_i a' dd C' ns ds e1
      obtain ⟨rfl, rfl, rfl, rfl, dat, hl, q2⟩ := q
      rcases R.sl i _ e1 with z | ⟨v, ev, rfl, xs, h0, h1, h2⟩
      · cases z
      · obtain ⟨v, e2, hv⟩ := lk_ok h2 hl
        exact ⟨_, ev, rfl, rfl, dd, _, v, rfl, R.sub _ _ h1, e2, aft_here R hv q2⟩
    · exact q.elim
  · unfold tdXf at q ⊢
    split at q
    · obtain ⟨h1, h2, h3, h4, dat, hl, q2⟩ := q
      exact ⟨h1, h2, h3, h4, dat, hl, w _ _ q2⟩
    · exact q
/-! ### return of what may raise -/
def tdRetE (t : TDE) : TDS := fun D δ => t δ D.rt D.ex
def tdTupE (ta : TD) (tb : TDE) : TDE := fun δ Q W => ta δ fun r δ1 => match fz r with
  | none => False
  | some d => tb δ1 (fun s δ2 => match fz s with
    | none => False
    | some e => Q (.dt (.tup [d, e])) δ2) W
section
variable {X : Cx} {a b e : Expr} {ta : TD} {tb t : TDE} {pos : Pos}
theorem pds_retE (h : PDE X e t) : PDS X (.Return (some e) pos) (tdRetE t) :=
  ⟨PS.weak (ps_ret h.pe) fun D σ H ⟨B, H0, G0, δ, G, R, q⟩ => ⟨B, H0, G0, δ, G, R, h.mono _ _ _ _ _ q (fun r δ' q v H' G' R' _ _ ok => q v σ H' G' R' ok) fun _ _ _ _ q => q⟩, fun D D' δ w q => h.mono _ _ _ _ _ q (fun r δ' q => w.rt _ _ q) fun _ _ _ _ q => w.ex _ _ _ _ q⟩
theorem pde_tup {kt : Nat} (ha : PD X a ta) (hb : PDE X b tb) (h1 : starEach [a, b] X.env = (false, eval a X.env) :: starEach [b] X.env := by rfl) (h2 : starEach [b] X.env = (false, eval b X.env) :: starEach [] X.env := by rfl) : PDE X (.Tuple [a, b] kt pos) (tdTupE ta tb) := by
  refine ⟨PE.weak (pe_tup (pa_cons ha.pe (pa_cons hb.pe pa_nil h2) h1)) fun σ H Q ⟨B, H0, G0, δ, G, R, q⟩ => ?_, fun δ Q Q' W W' q w w' => ha.mono _ _ _ q fun r δ1 q => ?_⟩
  · refine ev_data ha.mono (kk := fun d δ1 => tb δ1 (fun s δ2 => match fz s with
      | none => False
      | some e => Aft X.K B H0 G0 H σ G Q (.dt (.tup [d, e])) δ2) (exW X B H0 G0)) R (ha.mono _ _ _ q fun r δ1 q => ?_) fun d δ1 v H1 G1 R1 s1 f1 hd hq => ?_
    · cases er : fz r with
      | none => rw [er] at q; exact q
      | some d => rw [er] at q; exact q
    · refine ⟨B, H0, G0, δ1, G1, R1, hb.mono _ _ _ _ _ hq (fun s δ2 q w H2 G2 R2 s2 f2 ok => ?_) fun _ _ _ _ q => q⟩
      cases es : fz s with
      | none => rw [es] at q; exact q.elim
      | some e =>
        rw [es] at q
        obtain ⟨G3, R3, s3, he⟩ := freeze R2 ok es
        refine ⟨(by show (2 : Nat) ≤ sizeLine; decide), fun p hp => ?_⟩
        have gp := R3.sub.free hp
        have sG : Same G3 (upd G3 p (.tup [v, w])) := fun b x e => by rw [upd_ne (ne_of_none e gp)]; exact e
        exact aft_laid R3 hp (by show (2 : Nat) ≤ sizeLine; decide) (.tup (.inl (.inl upd_same)) (.cons (Dd.mono ((s2.trans s3).trans sG) _ _ hd) (.cons (Dd.mono sG _ _ he) .nil))) (aftUp q ((s1.trans s2).trans s3) (f1.trans f2))
  · cases er : fz r with
    | none => rw [er] at q; exact q
    | some d =>
      rw [er] at q
      refine hb.mono _ _ _ _ _ q (fun s δ2 q => ?_) w'
      cases es : fz s with
      | none => rw [es] at q; exact q
      | some e => rw [es] at q; exact w _ _ q
end
/-! ### a call that may raise, where it does not -/
section
variable {X : Cx} {e o : Expr} {es : List Expr} {t : TD} {u : TDA} {m : Str} {C : Addr} {pos apos : Pos}
theorem MthE.calm {P : Program} {w : World} {K : PySem.W.Frag} {mg : Str → Option Value} {base : Heap} {k n : Nat} {t : TFE} (M : MthE P w K mg base k C m n t) : ∃ f fd ps, FnOk P w K mg base (L2.CX P w) k f fd ps (spD K n fun rs Q => t rs Q fun _ _ _ => False) ∧ Cls K C ∧ Meth K C m f ∧ Binds K fd ps [] := by
  obtain ⟨f, fd, ps, F, c, hm, hb⟩ := M.ex
  have imp : ∀ vs H Q E, spD K n (fun rs Q => t rs Q fun _ _ _ => False) vs H Q E → spE K n t vs H Q E := fun vs H Q E ⟨h1, B, G, rs, h2, h3, h4, h5, q⟩ => ⟨h1, B, G, rs, h2, h3, h4, h5, M.mono _ _ _ _ _ q (fun _ q => q) fun _ _ _ z => z.elim⟩
  exact ⟨f, fd, ps, ⟨fun vs H Q E h => F.len vs H Q E (imp vs H Q E h), fun A outer s H args us vs Q E r en b v h => F.run A outer s H args us vs Q E r en b v (imp vs H Q E h)⟩, c, hm, hb⟩
end
end DL

set_option Elab.async false
set_option linter.all false
set_option maxRecDepth 100000
set_option maxHeartbeats 4000000
/-! DLX: x.insert(i, e); facts of exception classes by a Bool; calls of methods that may raise where they do not. -/
namespace DL
open PySem PySem.Spec PyProof.Rows L2
/-! ### x.insert(j, e), x an owned list -/
def tdIns (i : Nat) (tj te : TD) : TDS := fun D δ => match δ[i]? with
  | some (.ol _) => tj δ fun r δ1 => match r with
    | .dt (.int k) => te δ1 fun r2 δ2 => match fz r2, δ2[i]? with
      | some d, some (.ol ds) => ds.length < sizeLine ∧ 0 ≤ k ∧ k < 2 ^ 63 ∧ D.nx (δ2.set i (.ol (ds.take k.toNat ++ [d] ++ ds.drop k.toNat)))
      | _, _ => False
    | _ => False
  | _ => False
section
variable {X : Cx} {o j e : Expr} {pos p1 p2 : Pos} {tj te : TD} {i : Nat}
theorem pds_ins (ho : PE X o (tVar i)) (hj : PD X j tj) (he : PD X e te) (hbase : attributeBase o "insert" X.env (eval o X.env) = eval o X.env := by rfl)
    (hfew : ((backTo p2 (starEach [j, e] X.env)).all (fun x => !x.1) && (backToKw p2 (keywordEach [] X.env)).all (fun x => x.1.isSome)
      && decide ([j, e].length + ([] : List Keyword).length + (if ([] : List Keyword).isEmpty then 0 else 1) < 30)) = true := by rfl)
    (hline : (p1.endLine == p2.line) = true := by rfl) (hst : starEach [j, e] X.env = (false, eval j X.env) :: starEach [e] X.env := by rfl) (hst2 : starEach [e] X.env = (false, eval e X.env) :: starEach [] X.env := by rfl) (hplain : (backTo p2 (starEach [e] X.env)).any (·.1) = false := by rfl)
    (hs : swapsWith (.Call (.Attribute o "insert" p1) [j, e] [] p2) none pos.line X.env = pure false := by rfl) : PDS X (.Expr (.Call (.Attribute o "insert" p1) [j, e] [] p2) pos) (tdIns i tj te) := by
  refine ⟨PS.weak (ps_expr (pe_bm PySem.F.plainAttrs_list PySem.F.slot_list_insert PySem.F.type_list_insert mt_insert ho (pa_cons hj.pe (pa_cons he.pe pa_nil hst2) hst) hbase hfew hline hst hplain) hs) fun D σ H ⟨B, H0, G0, δ, G, R, q⟩ => ?_, fun D D' δ w q => ?_⟩
  · unfold tdIns at q
    split at q
    · rename_i ds0 e1
      obtain ⟨a, xs, ev, oa, ha, hA⟩ := R.ol e1
      refine ⟨_, ev, .inl ⟨rfl, _, SqL.of ha⟩, B, H0, G0, δ, G, R, hj.mono _ _ _ q fun r δ1 q1 y H1 G1 R1 s1 f1 ok1 => ?_⟩
      split at q1
      · rename_i k
        cases ok1.1
        refine ⟨B, H0, G0, δ1, G1, R1, he.mono _ _ _ q1 fun r2 δ2 q2 z H2 G2 R2 s2 f2 ok2 => ?_⟩
        split at q2
        · rename_i d ds er e2
          obtain ⟨a2, xs2, ev2, oa2, ha2, hA2⟩ := R2.ol e2
          rw [ev] at ev2; cases ev2
          obtain ⟨G3, R3, s3, hd⟩ := freeze R2 ok2 er
          obtain ⟨hz, k0, k1, qn⟩ := q2
          rw [← hA2.len] at hz
          refine ⟨a, xs2, k, z, rfl, rfl, ha2, hz, k0, k1, ?_⟩
          refine qn σ _ G3 (R3.write oa2 (o := .lst (xs2.take k.toNat ++ [z] ++ xs2.drop k.toNat)) ?_ rfl ⟨_, upd_same, ?_⟩)
          · show (xs2.take k.toNat ++ [z] ++ xs2.drop k.toNat).length ≤ sizeLine
            simp only [List.length_append, List.length_take, List.length_drop, List.length_singleton]
            omega
          · have hA3 := DdA.mono s3 _ _ hA2
            exact ((hA3.take _).append (.one hd)).append (hA3.drop _)
        · exact q2.elim
      · exact q1.elim
    · exact q.elim
  · unfold tdIns at q ⊢
    split at q
    · refine hj.mono _ _ _ q fun r δ1 q1 => ?_
      split at q1
      · refine he.mono _ _ _ q1 fun r2 δ2 q2 => ?_
        split at q2
        · exact ⟨q2.1, q2.2.1, q2.2.2.1, w.nx _ q2.2.2.2⟩
        · exact q2
      · exact q1
    · exact q
end
/-! ### an exception class by a Bool -/
def oexO (K : PySem.W.Frag) (C : Addr) : Bool := match K.lookup C with
  | some ⟨.type "type", _, .cls cd, sl⟩ => (match cd.mro, sl.toList with
    | .ref C' :: bm, [_, _, _, _, some (.builtin n), _] => (C' == C && n == "ValueError.__new__") && ((!cd.hasDel && cd.hasDict) && PySem.HandSPX.refsVE bm)
    | _, _ => false)
  | _ => false
def oexB (K : PySem.W.Frag) (C : Addr) : Bool := oexO K C && (He.eqO (PySem.W.findIn K (.ref C) "__setattr__") (some (some (.builtin "object.__setattr__"))) && (decide (PySem.W.subIn K (.ref C) (.type "BaseException") = some true) && (decide (PySem.W.typeIn K (.ref C) = some (.type "type")) && PySem.W.keepIn K (.ref C))))
theorem oexB_ok {K : PySem.W.Frag} {C : Addr} (h : oexB K C = true) : OexC K C := by
  unfold oexB at h
  simp only [Bool.and_eq_true] at h
  obtain ⟨h1, h2, h3, h4, h5⟩ := h
  refine ⟨?_, He.eqO_ok h2, of_decide_eq_true h3, of_decide_eq_true h4, h5⟩
  unfold oexO at h1
  split at h1
  · rename_i dd cd sl ho
    split at h1
    · rename_i C' bm k0 k1 k2 k3 n k5 hm hs
      simp only [Bool.and_eq_true, beq_iff_eq, Bool.not_eq_true'] at h1
      obtain ⟨⟨rfl, rfl⟩, ⟨hdel, hdct⟩, ht⟩ := h1
      obtain ⟨nm, bs, mro, ns, qn, hd, sn, sub, ab, col, del⟩ := cd
      dsimp only at hm hdel hdct
      subst hm hdel hdct
      have hsl : sl = #[k0, k1, k2, k3, some (.builtin "ValueError.__new__"), k5] := by
        obtain ⟨l⟩ := sl
        simp only at hs
        rw [hs]
      subst hsl
      exact ⟨nm, qn, ns, bs, bm, sn, sub, ab, col, dd, k0, k1, k2, k3, k5, ho, ht⟩
    · cases h1
  · cases h1
/-- all that raise C(..), except C as e, e.f want of the class -/
def excB (K : PySem.W.Frag) (x f : Str) : Bool := oexB K (He.ga K x) && (xfB K (He.ga K x) && (He.eqO (PySem.W.findIn K (.ref (He.ga K x)) f) (some none) && (He.eqO (PySem.W.findIn K (.ref (He.ga K x)) "__init__") (some (some (.ref (He.ma K (He.ga K x) "__init__")))) && decide (PySem.W.typeIn K (.ref (He.ma K (He.ga K x) "__init__")) = some (.type "function")))))
structure ExcF (K : PySem.W.Frag) (x f : Str) : Prop where
  o : OexC K (He.ga K x)
  xf : XfC K (He.ga K x)
  no : PySem.W.findIn K (.ref (He.ga K x)) f = some none
  init : PySem.W.findIn K (.ref (He.ga K x)) "__init__" = some (some (.ref (He.ma K (He.ga K x) "__init__")))
  fn : PySem.W.typeIn K (.ref (He.ma K (He.ga K x) "__init__")) = some (.type "function")
theorem excB_ok {K : PySem.W.Frag} {x f : Str} (h : excB K x f = true) : ExcF K x f := by
  unfold excB at h
  simp only [Bool.and_eq_true] at h
  obtain ⟨h1, h2, h3, h4, h5⟩ := h
  exact ⟨oexB_ok h1, xfB_ok h2, He.eqO_ok h3, He.eqO_ok h4, of_decide_eq_true h5⟩
/-! ### o.m(..) that may raise, where it does not -/
section
variable {X : Cx} {e o : Expr} {es : List Expr} {t : TD} {u : TDA} {m : Str} {C : Addr} {pos apos : Pos}
theorem pd_methC {t' : TFE} {k n : Nat} {pl : Sem Bool} (M : MthE X.prog X.w X.K X.mg X.base k C m n t') (hr : Room k X.A) (ho : PD X o t) (hu : PDA X (e :: es) u)
    (hst : starEach (e :: es) X.env = (false, eval e X.env) :: starEach es X.env := by rfl) (hpl : (backTo pos (starEach es X.env)).any (·.1) = false := by rfl)
    (ht : eval (.Call (.Attribute o m apos) (e :: es) [] pos) X.env = (do
      let ov ← eval o X.env
      standAt apos.atName
      let (f, first) ← holding [ov] (getMethod ov m pl)
      callWith pos f first (backTo pos (starEach (e :: es) X.env)) (backToKw pos (keywordEach [] X.env))) := by rfl) :
    PD X (.Call (.Attribute o m apos) (e :: es) [] pos) (tdMeth C m (fun rs Q => t' rs Q fun _ _ _ => False) t u) := by
  have h := pde_meth M hr ho hu hst hpl ht
  refine ⟨PE.weak h.pe fun σ H Q ⟨B, H0, G0, δ, G, R, q⟩ => ⟨B, H0, G0, δ, G, R, ho.mono _ _ _ q fun r δ1 q => ?_⟩, fun δ Q Q' q w => ho.mono _ _ _ q fun r δ1 q => ?_⟩
  · cases er : fz r with
    | none => rw [er] at q; exact q
    | some d =>
      rw [er] at q
      cases d <;> first | exact q.elim | skip
      obtain ⟨h1, h2, h3⟩ := q
      exact ⟨h1, h2, hu.mono _ _ _ h3 fun rs δ2 q => M.mono _ _ _ _ _ q (fun _ q => q) fun _ _ _ z => z.elim⟩
  · cases er : fz r with
    | none => rw [er] at q; exact q
    | some d =>
      rw [er] at q
      cases d <;> first | exact q.elim | skip
      obtain ⟨h1, h2, h3⟩ := q
      exact ⟨h1, h2, hu.mono _ _ _ h3 fun rs δ2 q => M.mono _ _ _ _ _ q (fun r q => w _ _ q) fun _ _ _ z => z⟩
end
end DL

set_option Elab.async false
set_option linter.all false
set_option maxRecDepth 100000
set_option maxHeartbeats 4000000
/-! DLY: try's clauses without side facts; exceptions' own __init__. -/
namespace DL
open PySem PySem.Spec PyProof.Rows L2
theorem su_mono {X : Cx} {su : List Stmt} {th : Addr → Value → Option Addr → TDS} (hsu : ∀ (a : Addr) (oe : Obj) (cls : Value) (d : Option Addr) (pn : List (Addr × Obj)), Zc cls d oe → (∃ vs, oe.data = .fields vs) → PDSs (X.suite a ((a, oe) :: pn)) su (th a cls d)) : ∀ a c d, MonoS (th a c d) := fun a c d =>
  (hsu a { cls := c, dict := d, data := .fields #[] } c d [] ⟨rfl, rfl⟩ ⟨_, rfl⟩).mono
section
variable {X : Cx} {x n : Str} {i : Nat} {c : Value} {th : Addr → Value → Option Addr → TDS} {s0 : Stmt} {su : List Stmt} {np hp pos : Pos} {hs : List ExceptHandler} {h0 : ExceptHandler} {l : List ClD} {body : List Stmt} {tb : TDS}
theorem cl_bare (hc : Names X x c) (hsu : ∀ (a : Addr) (oe : Obj) (cls : Value) (d : Option Addr) (pn : List (Addr × Obj)), Zc cls d oe → (∃ vs, oe.data = .fields vs) → PDSs (X.suite a ((a, oe) :: pn)) (s0 :: su) (th a cls d)) (r : ClsD X hs l) :
    ClsD X (.ExceptHandler (some (.Name x np)) none (s0 :: su) hp :: hs) (⟨c, none, th⟩ :: l) := .bare hc hsu (su_mono hsu) r
theorem cl_named (hi : X.N[i]? = some n) (hl : X.env.kindOf n = some .local) (hc : Names X x c) (hsu : ∀ (a : Addr) (oe : Obj) (cls : Value) (d : Option Addr) (pn : List (Addr × Obj)), Zc cls d oe → (∃ vs, oe.data = .fields vs) → PDSs (X.suite a ((a, oe) :: pn)) (s0 :: su) (th a cls d)) (r : ClsD X hs l) :
    ClsD X (.ExceptHandler (some (.Name x np)) (some n) (s0 :: su) hp :: hs) (⟨c, some i, th⟩ :: l) := .named hi hl hc hsu (su_mono hsu) r
theorem pds_tryC (hst : X.stack = X.env :: X.outer) (hfr : X.env.frame = some X.env.locals) (hN : X.N.Nodup)
    (hb : ∀ (pn : List (Addr × Obj)) (xe : Value → Shared → Prop), PassesOwn (model X.prog X.w) X.A X.env xe → PDSs (X.tr pn xe) body tb) (hc : ClsD X (h0 :: hs) l) : PDS X (.Try body (h0 :: hs) [] [] pos) (tdTry X.K tb l) :=
  pds_try hst hfr hN hb (hb [] (fun _ _ => False) PassesOwn.never).mono hc
end
theorem ExcX.of {P : Program} {w : World} {K : PySem.W.Frag} {mg : Str → Option Value} {base : Heap} {x f qual x1 x2 : Str} {st : Stmt} {fd : FuncData} (E : ExcF K x f) (hm : mg x = some (.ref (He.ga K x))) (F : Fun K "__init__" qual st (He.ma K (He.ga K x) "__init__") fd) (S : FnScope [x1, x2] [x1, x2] (defScope st)) (hbd : Binds K fd [x1, x2] [])
    (hb : ∀ (f' : Addr) (cdv : Value) (A : Around) (outer : List Env) (s : Shared) (H : Hp) (E' : XK), PSs (cxOf CX0 P w K mg base [x1, x2] qual (defScope st) f' cdv A outer s H E').nox (defBody st) (tOst K f (tVar 0) (tVar 1))) : ExcX P w K mg base 1 (He.ga K x) x f := by
  refine ⟨E.o, hm, E.no, _, fd, _, E.init, E.fn, F.ok S (fun vs H Q E h => ?_) fun cdv A outer s H vs Q E' hr want => ⟨_, hb _ cdv A outer s H E', ?_⟩, hbd⟩
  · obtain ⟨a, y, rfl, _⟩ := h; rfl
  · obtain ⟨a, y, rfl, e, q⟩ := want
    exact ⟨_, rfl, _, rfl, a, _, rfl, E.o, E.no, .inl ⟨e, fun dx h1 h2 => q dx h1 h2⟩⟩
end DL

set_option Elab.async false
set_option linter.all false
set_option maxRecDepth 100000
set_option maxHeartbeats 4000000
/-! DLZ: cells of a sheet as data; comprehensions with two fors, any element. -/
namespace DL
open PySem PySem.Spec PyProof.Rows L2
theorem comp2_map {α : Type} {i j : Nat} {ti1 : TDI} {te : TD} {δw : List Sl} {vs1 : List Nat} (e : α → D) (ys : α → List D) (f : α → D → D) : ∀ (xs : List α) (acc : List D) (Q : List D → Prop),
    (∀ x ∈ xs, ∀ (C : List D → List Sl → Prop), C (ys x) (δw.set i (.dt (e x))) → ti1 (δw.set i (.dt (e x))) C) →
    (∀ x ∈ xs, ∀ y ∈ ys x, ∀ (C : Sl → List Sl → Prop), (∀ r, fz r = some (f x y) → C r ((wipeD (hideOwn (δw.set i (.dt (e x)))) vs1).set j (.dt y))) → te ((wipeD (hideOwn (δw.set i (.dt (e x)))) vs1).set j (.dt y)) C) →
    acc.length + (xs.flatMap fun x => (ys x).map (f x)).length ≤ sizeLine → Q (acc ++ xs.flatMap fun x => (ys x).map (f x)) → compD2 (gdName i) tdYes ti1 (gdName j) tdYes te δw vs1 (xs.map e) acc Q
  | [], acc, Q, _, _, _, h => by rw [List.flatMap_nil, List.append_nil] at h; exact h
  | x :: xs, acc, Q, h1, h2, hz, h => by
    rw [List.flatMap_cons, List.length_append, List.length_map] at hz
    refine ⟨rfl, ?_⟩
    rw [if_pos rfl]
    refine h1 x List.mem_cons_self _ ⟨rfl, by omega, ?_⟩
    have z := comp_map (i := j) (te := te) (δw := wipeD (hideOwn (δw.set i (.dt (e x)))) vs1) (fun d => d) (f x) (ys x) acc (fun acc' => compD2 (gdName i) tdYes ti1 (gdName j) tdYes te δw vs1 (xs.map e) acc' Q) (fun y hy C hC => h2 x List.mem_cons_self y hy C hC)
      (comp2_map e ys f xs _ Q (fun y hy => h1 y (List.mem_cons_of_mem _ hy)) (fun y hy => h2 y (List.mem_cons_of_mem _ hy)) (by rw [List.length_append, List.length_map]; omega) (by rw [List.append_assoc]; exact h))
    rw [List.map_id'] at z
    exact z
/-- the formula of a cell of a column -/
def Col.at_ (c : Col) (r rows : Int) : Fm := if r = -1 then c.h else if r = rows then c.f else c.b
theorem Col.at_ok {c : Col} (g : c.Good) (r rows : Int) : ∃ p, IsPl p ∧ WholeF p (c.at_ r rows) := by
  unfold Col.at_
  split
  · exact ⟨_, .head, g.h⟩
  · split
    · exact ⟨_, .foot, g.f⟩
    · exact ⟨_, .body, g.b⟩
/-- all addresses -/
def adrL (n : Nat) (rows : Int) : List D := (zs 0 n).flatMap fun c => (zs (-1) (rows + 2).toNat).map fun r => .tup [c, r]
def inpD : D := .tup [.str "input"]
def isInpAt (cs : List Col) (rows : Int) : D → Bool
  | .tup [.int c, .int r] => match cs[c.toNat]? with
    | some col => PyData.eqv (py (col.at_ r rows).d) (py inpD)
    | none => false
  | _ => false
theorem zs_in {lo : Int} {k : Nat} {d : D} (h : d ∈ zs lo k) : ∃ i : Int, d = .int i ∧ lo ≤ i ∧ i < lo + k := by
  obtain ⟨i, hi⟩ := List.getElem?_of_mem h
  obtain ⟨h1, h2⟩ := zs_get k i lo d hi
  exact ⟨_, h2, by omega, by omega⟩
theorem adr_in {n : Nat} {rows : Int} (h0 : -1 ≤ rows) {d : D} (h : d ∈ adrL n rows) : ∃ c r : Int, d = .tup [.int c, .int r] ∧ 0 ≤ c ∧ c < n ∧ -1 ≤ r ∧ r ≤ rows := by
  unfold adrL at h
  obtain ⟨x, hx, hd⟩ := List.mem_flatMap.mp h
  obtain ⟨y, hy, rfl⟩ := List.mem_map.mp hd
  obtain ⟨c, rfl, c0, c1⟩ := zs_in hx
  obtain ⟨r, rfl, r0, r1⟩ := zs_in hy
  exact ⟨c, r, rfl, c0, by omega, r0, by omega⟩
theorem flat_len {α β : Type} {f : α → List β} {k : Nat} : ∀ {xs : List α}, (∀ x ∈ xs, (f x).length = k) → (xs.flatMap f).length = xs.length * k
  | [], _ => by simp
  | x :: xs, h => by
    rw [List.flatMap_cons, List.length_append, h x List.mem_cons_self, flat_len fun y hy => h y (List.mem_cons_of_mem _ hy), List.length_cons, Nat.succ_mul]
    omega
theorem adr_len (n : Nat) (rows : Int) : (adrL n rows).length = n * (rows + 2).toNat := by
  unfold adrL
  rw [flat_len (k := (rows + 2).toNat) fun x _ => by rw [List.length_map, zs_len], zs_len]
/-! ### a closer cost of drawn formulas -/
def Ck : Nat → Nat
  | 0 => 400
  | n + 1 => 6 * (Ck n + 2) + 152
theorem Ck_mono : ∀ {m n : Nat}, m ≤ n → Ck m ≤ Ck n := by
  intro m n h
  induction h with
  | refl => exact Nat.le_refl _
  | step _ ih => show _ ≤ 6 * (Ck _ + 2) + 152; omega
theorem cost_part {c : D} (h : isPart c = true) : costD c ≤ 110 := by
  rcases part_cases h with rfl | ⟨i, rfl⟩ | ⟨i, rfl, _⟩ <;> exact Nat.le_of_ble_eq_true rfl
theorem cost_row {c : D} (h : isRow c = true) : costD c ≤ 130 := by
  rcases row_cases h with ⟨w, rfl, h2⟩ | ⟨w, i, rfl, h2⟩
  · rcases in_two h2 with rfl | rfl <;> exact Nat.le_of_ble_eq_true rfl
  · clear h
    rcases h2 with rfl | ⟨rfl, _⟩ <;> exact Nat.le_of_ble_eq_true rfl
theorem cost_lim {c : D} (h : isLim c = true) : costD c ≤ 80 := by
  rcases lim_cases h with rfl | ⟨i, rfl⟩ <;> exact Nat.le_of_ble_eq_true rfl
theorem cost_nm {c r : D} (h : (Rd.nm c r).ok) : costD (.tup [.str "name", c, r]) ≤ 330 := by
  have h1 := cost_part h.1
  have h2 := cost_row h.2
  have e : costD (.tup [.str "name", c, r]) = 44 + (costD c + 2 + (costD r + 2 + 0)) + 3 := rfl
  omega
theorem cost_rg {c a b : D} (h : (Rd.rg c a b).ok) : costD (.tup [.str "rows", c, a, b]) ≤ 330 := by
  have h1 := cost_part h.1
  have h2 := cost_lim h.2.1
  have h3 := cost_lim h.2.2
  have e : costD (.tup [.str "rows", c, a, b]) = 44 + (costD c + 2 + (costD a + 2 + (costD b + 2 + 0))) + 3 := rfl
  omega
mutual
theorem cost_fm {p : Str} : ∀ f : Fm, f.dr p → costD f.d ≤ Ck f.hgt
  | .num i, h => by rw [Fm.hgt, Fm.d]; exact Nat.le_of_ble_eq_true rfl
  | .emp, h => by rw [Fm.hgt, Fm.d]; exact Nat.le_of_ble_eq_true rfl
  | .inp, h => by rw [Fm.hgt, Fm.d]; exact Nat.le_of_ble_eq_true rfl
  | .nm c r, h => by
    rw [Fm.dr] at h; rw [Fm.hgt, Fm.d]
    have := cost_nm h.ok
    show _ ≤ 400; omega
  | .rg w c a b, h => by
    rw [Fm.dr] at h; rw [Fm.hgt, Fm.d]
    have z := cost_rg h.ok
    have e : costD (.str w.s) ≤ 52 := by cases w <;> exact Nat.le_of_ble_eq_true rfl
    show costD (.str w.s) + 2 + (costD (.tup [.str "rows", c, a, b]) + 2 + 0) + 3 ≤ 400
    omega
  | .node g xs, h => by
    rw [Fm.dr] at h; rw [Fm.hgt, Fm.d]
    have z := cost_fmA xs h.2.2.2
    have m : xs.length * (Ck (hgtA xs) + 2) ≤ 6 * (Ck (hgtA xs) + 2) := Nat.mul_le_mul_right _ h.2.2.1
    show _ ≤ 6 * (Ck (hgtA xs) + 2) + 152
    cases g with
    | mn w =>
      have e : costD (.str w.s) ≤ 52 := by cases w <;> exact Nat.le_of_ble_eq_true rfl
      show costD (.str w.s) + 2 + (costA (fdA xs) + 3 + 2 + 0) + 3 ≤ _
      omega
    | tm i => show 54 + (80 + 2 + costA (fdA xs)) + 3 ≤ _; omega
    | ov => show 44 + costA (fdA xs) + 3 ≤ _; omega
    | cs s =>
      have e : costD (.str s.s) ≤ 22 := by cases s <;> exact Nat.le_of_ble_eq_true rfl
      obtain ⟨a, b, c, d, rfl⟩ := h.2.1
      have e2 : hdD (.cs s) (fdA [a, b, c, d]) = .tup (.str "case" :: a.d :: .str s.s :: fdA [b, c, d]) := by simp only [fdA, hdD]
      rw [e2]
      have e3 : costA (fdA [a, b, c, d]) = costD a.d + 2 + costA (fdA [b, c, d]) := by rw [fdA]; rfl
      show 44 + (costD a.d + 2 + (costD (.str s.s) + 2 + costA (fdA [b, c, d]))) + 3 ≤ _
      omega
theorem cost_fmA {p : Str} : ∀ xs : List Fm, drA p xs → costA (fdA xs) ≤ xs.length * (Ck (hgtA xs) + 2)
  | [], _ => by rw [fdA]; exact Nat.zero_le _
  | x :: xs, h => by
    rw [drA] at h
    have h1 := cost_fm x h.1
    have h2 := cost_fmA xs h.2
    rw [fdA, hgtA, List.length_cons, Nat.succ_mul]
    show costD x.d + 2 + costA (fdA xs) ≤ _
    have m1 := Ck_mono (Nat.le_max_left x.hgt (hgtA xs))
    have m2 := Ck_mono (Nat.le_max_right x.hgt (hgtA xs))
    have m3 : xs.length * (Ck (hgtA xs) + 2) ≤ xs.length * (Ck (max x.hgt (hgtA xs)) + 2) := Nat.mul_le_mul_left _ (by omega)
    omega
end
theorem WholeF.bs2 {p : Str} {f : Fm} (h : WholeF p f) : Bs 600000 20 f.d := by
  refine ⟨h.bs.plain, h.bs.small, ?_, h.bs.depth, h.bs.dict, h.bs.nol, h.bs.lay⟩
  rcases h with ⟨rfl, _⟩ | h
  · rw [Fm.d]; exact Nat.le_of_ble_eq_true rfl
  · exact Nat.le_trans (cost_fm f h.dr) (Nat.le_trans (Ck_mono h.hgt) (by decide))
theorem Col.Good.bs {c : Col} (g : c.Good) : Bs 1800009 21 c.d := by
  refine (bs_tup (c := 600000) (h := 20) (xs := [c.h.d, c.b.d, c.f.d]) fun x hx => ?_).mono (by simp only [List.length_cons, List.length_nil]; omega) (by decide)
  simp only [List.mem_cons, List.not_mem_nil, or_false] at hx
  rcases hx with rfl | rfl | rfl
  · exact WholeF.bs2 g.h
  · exact WholeF.bs2 g.b
  · exact WholeF.bs2 g.f
theorem zs_snoc : ∀ (k : Nat) (lo : Int), zs lo (k + 1) = zs lo k ++ [.int (lo + k)]
  | 0, lo => by show [D.int lo] = [.int (lo + (0 : Nat))]; rw [show lo + ((0 : Nat) : Int) = lo by omega]
  | k + 1, lo => by
    show D.int lo :: zs (lo + 1) (k + 1) = D.int lo :: (zs (lo + 1) k ++ [.int (lo + (k + 1 : Nat))])
    rw [zs_snoc k (lo + 1), show lo + 1 + (k : Int) = lo + (k + 1 : Nat) by omega]
theorem adr_succ (j : Nat) (rows : Int) : adrL (j + 1) rows = adrL j rows ++ (zs (-1) (rows + 2).toNat).map fun r => .tup [.int j, r] := by
  unfold adrL
  rw [zs_snoc, List.flatMap_append]
  rw [List.flatMap_cons, List.flatMap_nil, List.append_nil, Int.zero_add]
end DL

set_option Elab.async false
set_option linter.all false
set_option maxRecDepth 100000
set_option maxHeartbeats 4000000
/-! DM0: a list that is lent to a callee, which changes it. -/
namespace DL
open PySem PySem.Spec PyProof.Rows L2
def del (H : Hp) (a : Addr) : Hp := fun b => if b = a then none else H b
theorem del_same {H : Hp} {a : Addr} : del H a a = none := if_pos rfl
theorem del_ne {H : Hp} {a b : Addr} (h : b ≠ a) : del H a b = H b := if_neg h
theorem del_some {H : Hp} {a b : Addr} {o : HO} (h : del H a b = some o) : b ≠ a ∧ H b = some o := by
  by_cases e : b = a
  · subst e; rw [del_same] at h; cases h
  · rw [del_ne e] at h; exact ⟨e, h⟩
theorem upd_del {H : Hp} {a : Addr} {o : HO} (h : H a = some o) : upd (del H a) a o = H := by
  funext b
  by_cases e : b = a
  · subst e; rw [upd_same, h]
  · rw [upd_ne e, del_ne e]
section
variable {K : PySem.W.Frag} {B : Bg} {H0 G0 H H' G G' : Hp} {σ : L2.St} {δ : List Sl}
/-- a thing that is nobody's is out of sight -/
theorem Rel.del (R : Rel K B H0 G0 H σ δ G) {a : Addr} (h0 : H0 a = none) (ga : G a = none) (nb : NotB B a) (no : ∀ i, ¬ Own σ δ i a) : Rel K B H0 G0 (del H a) σ δ G := by
  refine ⟨fun b x e => by rw [del_ne (ne_of_none e ga)]; exact R.sub _ _ e, R.g0, fun b x e n => by rw [del_ne (ne_of_none e h0)]; exact R.ent b x e n, R.len, fun i s e => ?_, R.sep, R.own, fun b c e => ?_, R.gn, fun b x e => R.sz b x (del_some e).2⟩
  · rcases R.sl i s e with z | ⟨v, ev, ok⟩
    · exact .inl z
    · refine .inr ⟨v, ev, ?_⟩
      cases io : s.isOwn with
      | false => cases s <;> first | exact ok | cases io
      | true =>
        obtain ⟨b, eb, gb, h⟩ := ok.own io
        have ne : b ≠ a := fun z => no i (z ▸ ⟨eb ▸ ev, _, e, io⟩)
        have h2 := h.up (H' := DL.del H a) (fun o q => by rw [del_ne ne]; exact q) (Same.refl _)
        cases s <;> first | exact ⟨b, eb, gb, h2⟩ | cases io
  · have ne : b ≠ a := fun z => nb c (z ▸ e)
    exact (R.bag b c e).up (del_ne ne) (Same.refl _) (R.bag b c e).gn
theorem Rel.undel (R : Rel K B H0 G0 (DL.del H a) σ δ G) {o : HO} (ha : H a = some o) (so : SzO o) : Rel K B H0 G0 H σ δ G := by
  have z := R.laidO (p := a) (o := o) del_same so
  rw [upd_del ha] at z
  exact z
theorem set_self {α : Type} {l : List α} {i : Nat} {a : α} (h : l[i]? = some a) : l.set i a = l := by
  apply List.ext_getElem?
  intro j
  by_cases e : i = j
  · subst e
    rw [List.getElem?_set_self (List.getElem?_eq_some_iff.mp h).1, h]
  · rw [List.getElem?_set_ne e]
/-- a slot is told as an owned list again -/
theorem Rel.reown (R : Rel K B H0 G0 H σ δ G) {j : Nat} {a : Addr} {xs : List V} {L : List D} (es : σ[j]? = some (some (.ref a))) (ha : H a = some (.lst xs)) (hA : DdA K G xs L) (ga : G a = none) (h0 : H0 a = none) (nb : NotB B a) (no : ∀ i, ¬ Own σ δ i a) : Rel K B H0 G0 H σ (δ.set j (.oL a L)) G := by
  have z := R.assign (v := .ref a) (r := .oL a L) ⟨⟨a, rfl, ga, rfl, xs, ha, hA⟩, (fun z => nomatch z), fun _ b e => by cases e; exact ⟨h0, nb, no⟩⟩ j
  rw [set_self es] at z
  exact z
theorem Rel.oL (R : Rel K B H0 G0 H σ δ G) {i : Nat} {x : Addr} {ds : List D} (e : δ[i]? = some (.oL x ds)) : ∃ xs, σ[i]? = some (some (.ref x)) ∧ Own σ δ i x ∧ H x = some (.lst xs) ∧ DdA K G xs ds := by
  rcases R.sl i _ e with z | ⟨v, ev, a, rfl, ga, rfl, xs, h1, h2⟩
  · cases z
  · exact ⟨xs, ev, ⟨ev, _, e, rfl⟩, h1, h2⟩
/-- without the slot nobody owns it -/
theorem Rel.unslot (R : Rel K B H0 G0 H σ δ G) {j : Nat} {x : Addr} (o : Own σ δ j x) : Rel K B H0 G0 H σ (δ.set j .no) G ∧ ∀ i, ¬ Own σ (δ.set j .no) i x := by
  refine ⟨R.reslot rfl (.inl rfl), fun i ⟨e, s, e2, io⟩ => ?_⟩
  rcases getSet e2 with ⟨h1, h2, h3⟩ | ⟨h1, h2⟩ | ⟨_, _, h⟩
  · subst h3; cases io
  · exact h1 (R.sep j i x o ⟨e, s, h2, io⟩)
  · exact h.elim
end
/-! ### promises -/
abbrev TM := List Sl → List D → (Sl → List D → Prop) → Prop
def MonoM (t : TM) : Prop := ∀ rs L (Q Q' : Sl → List D → Prop), t rs L Q → (∀ r L', Q r L' → Q' r L') → t rs L Q'
structure RetM (K : PySem.W.Frag) (B : Bg) (H G H' G' : Hp) (a : Addr) (v : V) (r : Sl) (L' : List D) : Prop where
  rk : RetOk K B (del H a) G H' G' v r
  la : ∃ xs, H' a = some (.lst xs) ∧ DdA K G' xs L'
  ga : G' a = none
  va : r.isOwn = true → v ≠ .ref a
def spM (K : PySem.W.Frag) (n : Nat) (t : TM) : Sp := fun vs H Q _ => ∃ ws a B G rs L, vs = ws ++ [.ref a] ∧ ws.length = n ∧ Same G H ∧ (∀ b c, (b, c) ∈ B → BagOk H G b c) ∧ HSz H ∧ ArgsOk K B G ws rs ∧ G a = none ∧ NotB B a ∧ (∃ xs, H a = some (.lst xs) ∧ DdA K G xs L) ∧
  t rs L (fun r L' => ∀ v H' G', RetM K B H G H' G' a v r L' → Q v H')
section
variable {K : PySem.W.Frag} {B : Bg} {H0 G0 H H' G G' : Hp} {σ : L2.St} {δ : List Sl}
/-- behind a call that was lent a slot's list -/
theorem Rel.callM (R : Rel K B H0 G0 H σ δ G) {j : Nat} {a : Addr} (o : Own σ δ j a) {v : V} {r : Sl} {L' : List D} (k : RetM K B H G H' G' a v r L') : Rel K B H0 G0 H' σ (δ.set j (.oL a L')) G' ∧ ResOk K B H0 H' σ (δ.set j (.oL a L')) G' v r := by
  obtain ⟨h0, ga, nb⟩ := R.own j a o
  obtain ⟨R1, no⟩ := R.unslot o
  obtain ⟨R2, ok⟩ := (R1.del h0 ga nb no).call k.rk
  obtain ⟨xs, hx, hA⟩ := k.la
  refine ⟨?_, ok.1, ok.2.1, fun io b e => ?_⟩
  · have z := R2.reown (j := j) o.1 hx hA k.ga h0 nb no
    rw [List.set_set] at z
    exact z
  · obtain ⟨z1, z2, z3⟩ := ok.2.2 io b e
    refine ⟨z1, z2, fun i ⟨e1, s, e2, io2⟩ => ?_⟩
    rcases getSet e2 with ⟨h1, h2, h3⟩ | ⟨h1, h2⟩ | ⟨_, _, h⟩
    · subst h1
      rw [o.1] at e1
      cases e1
      exact k.va io e
    · exact z3 i ⟨e1, s, by rw [List.getElem?_set_ne h1]; exact h2, io2⟩
    · exact h.elim
/-- behind a call that was lent a list that is nobody's -/
theorem Rel.callT (R : Rel K B H0 G0 H σ δ G) {a : Addr} (h0 : H0 a = none) (ga : G a = none) (nb : NotB B a) (no : ∀ i, ¬ Own σ δ i a) {v : V} {r : Sl} {L' : List D} (k : RetM K B H G H' G' a v r L') : Rel K B H0 G0 H' σ δ G' ∧ ResOk K B H0 H' σ δ G' v r :=
  (R.del h0 ga nb no).call k.rk
theorem rel_startM {N : List Str} {ws : List V} {rs : List Sl} {x : Addr} {xs : List V} {L : List D} (hx : H x = some (.lst xs)) (hA : DdA K G xs L) (gx : G x = none) (nx : NotB B x) (sub : Same G H) (bag : ∀ b c, (b, c) ∈ B → BagOk H G b c) (sz : HSz H) (oks : ArgsOk K B G ws rs) (hn : ws.length < N.length) :
    Rel K B (DL.del H x) G H (start N (ws ++ [.ref x])) (startD N (rs ++ [.oL x L])) G := by
  have el := oks.len
  have R1 : Rel K B (DL.del H x) G (DL.del H x) (start N ws) (startD N rs) G := rel_start (fun b o e => by rw [del_ne (ne_of_none e gx)]; exact sub _ _ e) (fun b c e => (bag b c e).up (del_ne fun z => nx c (z ▸ e)) (Same.refl _) (bag b c e).gn) (fun b o e => sz b o (del_some e).2) oks
  obtain ⟨h1, h2, h3⟩ := R1.newOwn (p := x) del_same
  have R2 := R1.undel hx (sz _ _ hx)
  have R3 := R2.assign (v := .ref x) (r := .oL x L) ⟨⟨x, rfl, gx, rfl, xs, hx, hA⟩, (fun z => nomatch z), fun _ b e => by cases e; exact ⟨h1, h2, h3⟩⟩ ws.length
  have e1 : (start N ws).set ws.length (some (.ref x)) = start N (ws ++ [.ref x]) := by
    unfold L2.start
    have e : N.length - ws.length = (N.length - (ws ++ [V.ref x]).length) + 1 := by rw [List.length_append, List.length_singleton]; omega
    rw [List.map_append, e, List.replicate_succ, List.set_append_right _ _ (by rw [List.length_map]; exact Nat.le_refl _), List.length_map, Nat.sub_self, List.append_assoc]
    rfl
  have e2 : (startD N rs).set ws.length (.oL x L) = startD N (rs ++ [.oL x L]) := by
    unfold startD
    have e : N.length - rs.length = (N.length - (rs ++ [Sl.oL x L]).length) + 1 := by rw [List.length_append, List.length_singleton]; omega
    rw [e, List.replicate_succ, List.set_append_right _ _ (by omega), show ws.length - rs.length = 0 by omega, List.append_assoc]
    rfl
  rw [e1, e2] at R3
  exact R3
end
end DL

set_option Elab.async false
set_option linter.all false
set_option maxRecDepth 100000
set_option maxHeartbeats 4000000
/-! DM1: expressions that change a list that was lent. -/
namespace DL
open PySem PySem.Spec PyProof.Rows L2
def AftM (K : PySem.W.Frag) (B : Bg) (H0 G0 : Hp) (σ : L2.St) (G : Hp) (Q : VK) : QD := fun r δ' => ∀ v H' G', Rel K B H0 G0 H' σ δ' G' → Same G G' → ResOk K B H0 H' σ δ' G' v r → Q v H'
def tyM (K : PySem.W.Frag) (t : TD) : TE := fun σ H Q => ∃ B H0 G0 δ G, Rel K B H0 G0 H σ δ G ∧ t δ (AftM K B H0 G0 σ G Q)
structure PDM (X : Cx) (e : Expr) (t : TD) : Prop where
  pe : PE X e (tyM X.K t)
  mono : MonoD t
def AftMA (K : PySem.W.Frag) (B : Bg) (H0 G0 : Hp) (σ : L2.St) (G : Hp) (Q : List V → Hp → Prop) : List Sl → List Sl → Prop := fun rs δ' => ∀ vs H' G', Rel K B H0 G0 H' σ δ' G' → Same G G' → ArgsOk K B G' vs rs → Q vs H'
def tyMA (K : PySem.W.Frag) (t : TDA) : TA := fun σ H Q => ∃ B H0 G0 δ G, Rel K B H0 G0 H σ δ G ∧ t δ (AftMA K B H0 G0 σ G Q)
structure PDMA (X : Cx) (es : List Expr) (t : TDA) : Prop where
  pa : PA X es (tyMA X.K t)
  mono : MonoA t
theorem aftM_step {K : PySem.W.Frag} {B : Bg} {H0 G0 H1 : Hp} {σ : L2.St} {G G1 : Hp} {Q : VK} (sG : Same G G1) : ∀ r δ', AftM K B H0 G0 σ G Q r δ' → Aft K B H0 G0 H1 σ G1 Q r δ' :=
  fun r δ' q v H' G' R' s' _ ok => q v H' G' R' (sG.trans s') ok
section
variable {X : Cx} {e a b c o : Expr} {es : List Expr} {pos p p1 p2 : Pos} {t ta tb : TD} {u : TDA} {ua : TDT}
theorem pdm_of (h : PD X e t) : PDM X e t := ⟨PE.weak h.pe fun σ H Q ⟨B, H0, G0, δ, G, R, q⟩ => ⟨B, H0, G0, δ, G, R, h.mono _ _ _ q fun r δ' q v H' G' R' s _ ok => q v H' G' R' s ok⟩, h.mono⟩
theorem pdma_nil : PDMA X [] tdNil := ⟨PA.weak pa_nil fun σ H Q ⟨B, H0, G0, δ, G, R, q⟩ => q [] H G R (Same.refl _) trivial, fun _ _ _ q w => w _ _ q⟩
theorem pdma_cons (h : PDM X e ta) (k : PDMA X es u) (hs : starEach (e :: es) X.env = (false, eval e X.env) :: starEach es X.env := by rfl) : PDMA X (e :: es) (tdCons ta u) := by
  refine ⟨PA.weak (pa_cons h.pe k.pa hs) fun σ H Q ⟨B, H0, G0, δ, G, R, q⟩ => ⟨B, H0, G0, δ, G, R, h.mono _ _ _ q fun r δ1 q v H1 G1 R1 s1 ok => ?_⟩, fun δ Q Q' q w => h.mono _ _ _ q fun r δ1 q => ?_⟩
  · cases ea : az r with
    | none => rw [ea] at q; exact q.elim
    | some r' =>
      rw [ea] at q
      obtain ⟨G2, R2, s2, ha⟩ := freezeA R1 ok ea
      exact ⟨B, H0, G0, δ1, G2, R2, k.mono _ _ _ q fun rs δ2 q vs H3 G3 R3 s3 oks => q (v :: vs) H3 G3 R3 ((s1.trans s2).trans s3) ⟨ha.mono s3, oks⟩⟩
  · cases ea : az r with
    | none => rw [ea] at q; exact q
    | some r' => rw [ea] at q; exact k.mono _ _ _ q fun rs δ2 q => w _ _ q
theorem pdm_if (h : PDT X c ua) (k : PDM X a ta) (l : PDM X b tb) : PDM X (.IfExp c a b pos) (tdIf ua ta tb) := by
  refine ⟨PE.weak (pe_ifExp h.pt k.pe l.pe) fun σ H Q ⟨B, H0, G0, δ, G, R, q⟩ => ⟨B, H0, G0, δ, G, R, h.mono _ _ _ q fun z δ' q H' G' R' s' f' => ?_⟩, fun δ Q Q' q w => h.mono _ _ _ q fun z δ' q => ?_⟩
  · cases z with
    | true => exact ⟨B, H0, G0, δ', G', R', k.mono _ _ _ q fun r δ2 q v H2 G2 R2 s2 ok => q v H2 G2 R2 (s'.trans s2) ok⟩
    | false => exact ⟨B, H0, G0, δ', G', R', l.mono _ _ _ q fun r δ2 q v H2 G2 R2 s2 ok => q v H2 G2 R2 (s'.trans s2) ok⟩
  · cases z with
    | true => exact k.mono _ _ _ q w
    | false => exact l.mono _ _ _ q w
theorem pdm_tup {x1} (h : PDMA X es u) : PDM X (.Tuple es x1 pos) (tdTup u) := by
  refine ⟨PE.weak (pe_tup h.pa) fun σ H Q ⟨B, H0, G0, δ, G, R, q⟩ => ⟨B, H0, G0, δ, G, R, h.mono _ _ _ q fun rs δ1 q vs H1 G1 R1 s1 oks => ?_⟩, fun δ Q Q' q w => h.mono _ _ _ q fun rs δ1 q => ?_⟩
  · cases ed : datas rs with
    | none => rw [ed] at q; exact q.elim
    | some ds =>
      rw [ed] at q
      have hd := datas_ok oks ed
      have z := q.1
      rw [← hd.len] at z
      refine ⟨z, fun p hp => ?_⟩
      have gp := R1.sub.free hp
      have sG : Same G1 (upd G1 p (.tup vs)) := fun b x e => by rw [upd_ne (ne_of_none e gp)]; exact e
      exact aft_laid R1 hp z (.tup (.inl (.inl upd_same)) (DdA.mono sG _ _ hd)) (aftM_step (H1 := H1) s1 _ _ q.2)
  · cases ed : datas rs with
    | none => rw [ed] at q; exact q
    | some ds => rw [ed] at q; exact ⟨q.1, w _ _ q.2⟩
theorem pdm_cb {r : List V → Hp → VK → Prop} {f : FDC} (mf : MonoC f) (o : CallS X.K r f) (h : PDMA X es u) (rule : PE X e (tCB r (tyMA X.K u))) : PDM X e (tdCB f u) :=
  ⟨PE.weak rule fun σ H Q ⟨B, H0, G0, δ, G, R, q⟩ => ⟨B, H0, G0, δ, G, R, h.mono _ _ _ q fun rs δ1 q vs H1 G1 R1 s1 oks => o B H0 G0 H1 σ δ1 G1 vs rs Q R1 oks (mf _ _ _ _ q (aftM_step s1))⟩,
    fun δ Q Q' q w => h.mono _ _ _ q fun rs δ1 q => mf _ _ _ _ q w⟩
theorem pdm_tuple (hg : Gl X "tuple") (hm : X.mg "tuple" = none) (h : PDMA X [e] u) (he : starEach [e] X.env = (false, eval e X.env) :: starEach [] X.env := by rfl) (hpl : (backTo pos (starEach [] X.env)).any (·.1) = false := by rfl) :
    PDM X (.Call (.Name "tuple" p) [e] [] pos) (tdCB (f1 fun d δ Q => match seqOf d with | some xs => Q (.dt (.tup xs)) δ | none => False) u) :=
  pdm_cb (mono_f1 fun d δ Q Q' q w => by split at q <;> first | exact w _ _ q | exact q)
    (callS_1 fun B H0 G0 H σ δ G v d Q R hd q => by
      split at q
      · rename_i xs e1
        cases hd <;> first | cases e1 | skip
        · rename_i a vs h1 h2
          refine ⟨a, vs, rfl, .inl ⟨SqL.of (R.sub _ _ h1), fun l hl => ?_⟩⟩
          have gl := R.sub.free hl
          have sG : Same G (upd G l (.tup vs)) := fun b x e => by rw [upd_ne (ne_of_none e gl)]; exact e
          exact aft_laid R hl (show vs.length ≤ sizeLine from R.sz _ _ (R.sub _ _ h1)) (.tup (.inl (.inl upd_same)) (DdA.mono sG _ _ h2)) q
        · rename_i a vs h1 h2
          exact ⟨a, vs, rfl, .inr ⟨sameT R.sub h1, aft_here R (.tup h1 h2) q⟩⟩
      · exact q.elim) h (pe_callTy call_tuple_of hg hm boot_tuple' h.pa (by decide) (by decide) he hpl)
theorem pds_retM (h : PDM X e ta) : PDS X (.Return (some e) pos) (tdRet ta) :=
  ⟨PS.weak (ps_ret h.pe) fun D σ H ⟨B, H0, G0, δ, G, R, q⟩ => ⟨B, H0, G0, δ, G, R, h.mono _ _ _ q fun r δ' q v H' G' R' _ ok => q v σ H' G' R' ok⟩, fun D D' δ w q => h.mono _ _ _ q fun r δ' q => w.rt _ _ q⟩
/-! x.pop(0) -/
def tdPop0 (i : Nat) : TD := fun δ Q => match δ[i]? with
  | some (.oL x (d :: ds)) => Q (.dt d) (δ.set i (.oL x ds))
  | _ => False
theorem pdm_pop0 {i : Nat} {z : Expr} (ho : PE X o (tVar i)) (hz : PE X z (tC (.int 0))) (hbase : attributeBase o "pop" X.env (eval o X.env) = eval o X.env := by rfl)
    (hfew : ((backTo p2 (starEach [z] X.env)).all (fun x => !x.1) && (backToKw p2 (keywordEach [] X.env)).all (fun x => x.1.isSome)
      && decide ([z].length + ([] : List Keyword).length + (if ([] : List Keyword).isEmpty then 0 else 1) < 30)) = true := by rfl)
    (hline : (p1.endLine == p2.line) = true := by rfl) (hst : starEach [z] X.env = (false, eval z X.env) :: starEach [] X.env := by rfl) (hplain : (backTo p2 (starEach [] X.env)).any (·.1) = false := by rfl) :
    PDM X (.Call (.Attribute o "pop" p1) [z] [] p2) (tdPop0 i) := by
  refine ⟨PE.weak (pe_bm PySem.F.plainAttrs_list PySem.F.slot_list_pop PySem.F.type_list_pop mt_popAt ho (pa_cons hz pa_nil hst) hbase hfew hline hst hplain) fun σ H Q ⟨B, H0, G0, δ, G, R, q⟩ => ?_, fun δ Q Q' q w => ?_⟩
  · unfold tdPop0 at q
    split at q
    · rename_i x d ds e1
      obtain ⟨xs, ev, oa, ha, hA⟩ := R.oL e1
      cases hA with
      | @cons y ys _ _ hy hys =>
        refine ⟨_, ev, .inl ⟨rfl, _, SqL.of ha⟩, x, _, 0, 0, y, rfl, rfl, ha, by decide, by decide, ?_, rfl, ?_⟩
        · show seqIndex? 0 (ys.length + 1) = some 0
          unfold seqIndex?
          simp
        · refine q _ _ G (R.write oa (o := .lst ys) ?_ rfl ⟨rfl, ys, upd_same, hys⟩) (Same.refl _) (resOk_dt hy)
          have z := R.sz _ _ ha
          show ys.length ≤ sizeLine
          have z2 : ys.length + 1 ≤ sizeLine := z
          omega
    · exact q.elim
  · unfold tdPop0 at q ⊢
    split at q
    · exact w _ _ q
    · exact q
end
end DL

set_option Elab.async false
set_option linter.all false
set_option maxRecDepth 100000
set_option maxHeartbeats 4000000
/-! DM2: defs that change a list that was lent: calls, bodies, comprehensions. -/
namespace DL
open PySem PySem.Spec PyProof.Rows L2
structure FnM (P : Program) (w : World) (K : PySem.W.Frag) (mg : Str → Option Value) (base : Heap) (k : Nat) (x : Str) (n : Nat) (t : TM) : Prop where
  ex : ∃ f fd ps, FnOk P w K mg base CX0 k f fd ps (spM K n t) ∧ mg x = some (.ref f) ∧ PySem.W.keepIn K (.ref f) = true ∧ Binds K fd ps []
  mono : MonoM t
  len : ∀ rs L Q, t rs L Q → rs.length = n
/-- f(a, x): x a list that is lent -/
def tdCallM (t : TM) (ta : TD) (j : Nat) : TD := fun δ Q => ta δ fun r δ1 => match az r, δ1[j]? with
  | some r', some (.oL x L) => t [r'] L (fun s L' => Q s (δ1.set j (.oL x L')))
  | _, _ => False
/-- f(a, e): e makes the list -/
def tdCallT (t : TM) (ta tb : TD) : TD := fun δ Q => ta δ fun r δ1 => match az r with
  | some r' => tb δ1 fun r2 δ2 => match r2 with
    | .ol L => t [r'] L (fun s _ => Q s δ2)
    | _ => False
  | none => False
section
variable {X : Cx} {e y : Expr} {pos p : Pos} {k j : Nat} {t : TM} {x : Str} {ta tb : TD}
theorem pdm_fn (F : FnM X.prog X.w X.K X.mg X.base k x 1 t) (hr : Room k X.A) (hg : Gl X x) (ha : PD X e ta) (hy : PE X y (tVar j))
    (hdb : (x == ("__debug__" : Str)) = false := by decide) (he : starEach [e, y] X.env = (false, eval e X.env) :: starEach [y] X.env := by rfl) (he2 : starEach [y] X.env = (false, eval y X.env) :: starEach [] X.env := by rfl) (hpl : (backTo pos (starEach [y] X.env)).any (·.1) = false := by rfl) :
    PDM X (.Call (.Name x p) [e, y] [] pos) (tdCallM t ta j) := by
  obtain ⟨f, fd, ps, h1, h2, h3, h4⟩ := F.ex
  refine ⟨PE.weak (pe_call h1 hr hg h2 h3 h4 .nil pass0 (pa_cons ha.pe (pa_cons hy pa_nil he2) he) hdb he hpl) fun σ H Q ⟨B, H0, G0, δ, G, R, q⟩ => ?_, fun δ Q Q' q w => ha.mono _ _ _ q fun r δ1 q => ?_⟩
  · refine ⟨B, H0, G0, δ, G, R, ha.mono _ _ _ q fun r δ1 q v H1 G1 R1 s1 f1 ok => ?_⟩
    split at q
    · rename_i r' a L ea ej
      obtain ⟨G2, R2, s2, hA⟩ := freezeA R1 ok ea
      obtain ⟨xs, ev, oa, hx, hD⟩ := R2.oL ej
      obtain ⟨h0, ga, nb⟩ := R2.own j a oa
      refine ⟨_, ev, [v], a, B, G2, [r'], L, rfl, rfl, R2.sub, R2.bag, R2.sz, ⟨hA, trivial⟩, ga, nb, ⟨xs, hx, hD⟩, F.mono _ _ _ _ q fun s L' q v' H' G' kk => ?_⟩
      obtain ⟨R3, ok3⟩ := R2.callM oa kk
      exact q v' H' G' R3 ((s1.trans s2).trans kk.rk.gg) ok3
    · exact q.elim
  · split at q
    · exact F.mono _ _ _ _ q fun s L' q => w _ _ q
    · exact q
theorem pdm_fnT (F : FnM X.prog X.w X.K X.mg X.base k x 1 t) (hr : Room k X.A) (hg : Gl X x) (ha : PD X e ta) (hy : PD X y tb)
    (hdb : (x == ("__debug__" : Str)) = false := by decide) (he : starEach [e, y] X.env = (false, eval e X.env) :: starEach [y] X.env := by rfl) (he2 : starEach [y] X.env = (false, eval y X.env) :: starEach [] X.env := by rfl) (hpl : (backTo pos (starEach [y] X.env)).any (·.1) = false := by rfl) :
    PDM X (.Call (.Name x p) [e, y] [] pos) (tdCallT t ta tb) := by
  obtain ⟨f, fd, ps, h1, h2, h3, h4⟩ := F.ex
  refine ⟨PE.weak (pe_call h1 hr hg h2 h3 h4 .nil pass0 (pa_cons ha.pe (pa_cons hy.pe pa_nil he2) he) hdb he hpl) fun σ H Q ⟨B, H0, G0, δ, G, R, q⟩ => ?_, fun δ Q Q' q w => ha.mono _ _ _ q fun r δ1 q => ?_⟩
  · refine ⟨B, H0, G0, δ, G, R, ha.mono _ _ _ q fun r δ1 q v H1 G1 R1 s1 f1 ok => ?_⟩
    split at q
    · rename_i r' ea
      obtain ⟨G2, R2, s2, hA⟩ := freezeA R1 ok ea
      refine ⟨B, H0, G0, δ1, G2, R2, hy.mono _ _ _ q fun r2 δ2 q2 v2 H3 G3 R3 s3 f3 ok2 => ?_⟩
      split at q2
      · rename_i L
        obtain ⟨a, rfl, ga, xs, hx, hD⟩ := ok2.1
        obtain ⟨h0, nb, no⟩ := ok2.2.2 rfl a rfl
        refine ⟨[v], a, B, G3, [r'], L, rfl, rfl, R3.sub, R3.bag, R3.sz, ⟨hA.mono s3, trivial⟩, ga, nb, ⟨xs, hx, hD⟩, F.mono _ _ _ _ q2 fun s L' q v' H' G' kk => ?_⟩
        obtain ⟨R4, ok4⟩ := R3.callT h0 ga nb no kk
        exact q v' H' G' R4 (((s1.trans s2).trans s3).trans kk.rk.gg) ok4
      · exact q2.elim
    · exact q.elim
  · split at q
    · refine hy.mono _ _ _ q fun r2 δ2 q2 => ?_
      split at q2
      · exact F.mono _ _ _ _ q2 fun s L' q => w _ _ q
      · exact q2
    · exact q
end
/-! ### from its body -/
def endM (Q : Sl → List D → Prop) (x : Addr) (n : Nat) (r : Sl) (δ : List Sl) : Prop := ∃ L, δ[n]? = some (.oL x L) ∧ Q r L
section
variable {P : Program} {w : World} {K : PySem.W.Frag} {mg : Str → Option Value} {base : Heap} {x : Str} {st : Stmt} {N ps : List Str} {k n : Nat} {t : TM}
theorem FnM.of (D0 : Dfn K mg x st ps) (S : FnScope N ps (defScope st)) (hn : ps.length = n + 1) (hN : n < N.length) (mt : MonoM t) (ln : ∀ rs L Q, t rs L Q → rs.length = n)
    (hb : ∀ (f : Addr) (cdv : Value) (A : Around) (outer : List Env) (s : Shared) (H : Hp) (E : XK), Room k (A.deeper (envOfC x (defScope st) s.heap.objs.size f cdv)) →
      ∃ tS, PDSs (cxOf CX0 P w K mg base N x (defScope st) f cdv A outer s H E).nox (defBody st) tS ∧ ∀ a rs L (Q : Sl → List D → Prop), t rs L Q → tS { nx := fun _ => False, rt := endM Q a n } (startD N (rs ++ [.oL a L]))) :
    FnM P w K mg base (k + 1) x n t := by
  obtain ⟨f, fd, F, hm, hbd⟩ := D0.ex
  refine ⟨⟨f, fd, ps, ?_, hm, F.kp, hbd⟩, mt, ln⟩
  refine F.ok S (fun vs H Q E h => by obtain ⟨ws, a, B, G, rs, L, rfl, hl, _⟩ := h; rw [List.length_append, hl]; exact hn.symm) fun cdv A outer s H vs Q E hr want => ?_
  obtain ⟨tS, h, le⟩ := hb f cdv A outer s H E hr
  refine ⟨_, h.ps, ?_⟩
  obtain ⟨ws, a, B, G, rs, L, rfl, hl, sub, bag, sz, oks, ga, nb, ⟨xs, hx, hA⟩, q⟩ := want
  refine ⟨B, _, G, _, G, rel_startM hx hA ga nb sub bag sz oks (by omega), h.mono _ _ _ ?_ (le a rs L _ q)⟩
  refine ⟨fun _ q => q.elim, fun r δ q v σ' H' G' R' ok => ?_, fun _ q => q.elim, fun _ q => q.elim, fun _ _ _ _ q => q.elim⟩
  obtain ⟨L', e, q⟩ := q
  obtain ⟨xs', ev, oa, hx', hA'⟩ := R'.oL e
  refine q v H' G' ⟨⟨R'.g0, R'.sub, R'.bag, fun b o e n => R'.ent b o e n, R'.sz, R'.gn, ok.1, ok.2.1, fun io b e => (ok.2.2 io b e).1⟩, ⟨xs', hx', hA'⟩, (R'.own _ _ oa).2.1, fun io e => ?_⟩
  exact (ok.2.2 io a e).2.2 _ oa
end
end DL

set_option Elab.async false
set_option linter.all false
set_option maxRecDepth 100000
set_option maxHeartbeats 4000000
/-! DM3: a comprehension whose turns change a list that was lent. -/
namespace DL
open PySem PySem.Spec PyProof.Rows L2
def compM (g : TDG) (te : TD) (δw : List Sl) (j : Nat) (x : Addr) : List D → List D → List D → (List D → List D → Prop) → Prop
  | [], acc, L, Q => Q acc L
  | d :: ds, acc, L, Q => g d (δw.set j (.oL x L)) fun δ1 => te δ1 fun r δ2 => match fz r, δ2[j]? with
    | some y, some (.oL x' L') => x' = x ∧ compM g te δw j x ds (acc ++ [y]) L' Q
    | _, _ => False
def tdLcM (ti : TDI) (g : TDG) (te : TD) (vs : List Nat) (j : Nat) : TD := fun δ Q => ti δ fun xs δ1 => xs.length ≤ sizeLine ∧ match δ1[j]? with
  | some (.oL x L) => compM g te (wipeD (hideOwn (δ1.set j .no)) vs) j x xs [] L fun ys L' => Q (.ol ys) (δ1.set j (.oL x L'))
  | _ => False
theorem compM_mono {g : TDG} {te : TD} (mg : MonoG g) (me : MonoD te) {δw : List Sl} {j : Nat} {x : Addr} {Q Q' : List D → List D → Prop} (w : ∀ ys L, Q ys L → Q' ys L) : ∀ (ds acc L : List D), compM g te δw j x ds acc L Q → compM g te δw j x ds acc L Q'
  | [], acc, L, h => w _ _ h
  | d :: ds, acc, L, h => mg _ _ _ _ h fun δ1 h => me _ _ _ h fun r δ2 h => by
    split at h
    · exact ⟨h.1, compM_mono mg me w ds _ _ h.2⟩
    · exact h
theorem wipeD_set {δ : List Sl} {j : Nat} {s : Sl} : ∀ {vs : List Nat}, j ∉ vs → wipeD (δ.set j s) vs = (wipeD δ vs).set j s
  | [], _ => rfl
  | v :: vs, h => by
    have h1 : j ≠ v := fun e => h (e ▸ List.mem_cons_self)
    show (wipeD (δ.set j s) vs).set v .no = ((wipeD δ vs).set v .no).set j s
    rw [wipeD_set (fun e => h (List.mem_cons_of_mem _ e)), List.set_comm _ _ h1]
section
variable {X : Cx} {elt tg iter : Expr} {scope : Scope} {own : List (Str × Nat)} {pos : Pos} {ti : TDI} {g : TDG} {te : TD} {vs : List Nat} {j : Nat}
theorem tdLcM_run (hj : j ∉ vs) (hi : MonoI ti) (mg : MonoG g) (me : MonoD te) : ∀ σ H Q, tyM X.K (tdLcM ti g te vs j) σ H Q → tLc (tyI X.K ti) (tyG X.K vs g) tYes (tyM X.K te) vs σ H Q := by
  intro σ H Q ⟨B, H0, G0, δ, G, R, q⟩
  refine ⟨B, H0, G0, δ, G, R, hi _ _ _ q fun xs δ1 q J H1 G1 R1 s1 f1 it => fun D hD => ?_⟩
  obtain ⟨hz, q⟩ := q
  split at q
  case h_2 => exact q.elim
  rename_i x L0 ej
  obtain ⟨xs0, ev, oa, hx0, hA0⟩ := R1.oL ej
  obtain ⟨h0, gx, nbx⟩ := R1.own j x oa
  obtain ⟨d0, dB, dO⟩ := R1.newOwn hD
  have gD : G1 D = none := R1.sub.free hD
  have Dx : D ≠ x := fun e => by rw [e, hx0] at hD; cases hD
  have dO2 : ∀ (L : List DL.D) i, ¬ Own σ (δ1.set j (.oL x L)) i D := fun L i ⟨e1, s, e2, io⟩ => by
    rcases getSet e2 with ⟨h1, h2, h3⟩ | ⟨h1, h2⟩ | ⟨_, _, h⟩
    · subst h1; rw [ev] at e1; cases e1; exact Dx rfl
    · exact dO i ⟨e1, s, h2, io⟩
    · exact h.elim
  have ejl : j < δ1.length := (List.getElem?_eq_some_iff.mp ej).1
  have at_j : ∀ (L : List DL.D), (δ1.set j (.oL x L))[j]? = some (.oL x L) := fun L => List.getElem?_set_self ejl
  refine ⟨fun i m H' => i + m = xs.length ∧ ∃ acc accD L G', H' D = some (.lst acc) ∧ DdA X.K G' acc accD ∧ acc.length ≤ i ∧ Rel X.K B H0 G1 H' σ (δ1.set j (.oL x L)) G' ∧ G' D = none ∧
    compM g te (wipeD (hideOwn (δ1.set j .no)) vs) j x (xs.drop i) accD L (fun ys L' => AftM X.K B H0 G0 σ G Q (.ol ys) (δ1.set j (.oL x L'))),
    ⟨xs.length, by omega, [], [], L0, G1, upd_same, .nil, Nat.le_refl _, by rw [set_self ej]; exact (R1.rebase).laidO hD (Nat.zero_le _), gD, q⟩, fun i m H' hW => ?_⟩
  obtain ⟨em, acc, accD, L, G', eD, hA, la, R', gD', q'⟩ := hW
  by_cases hi' : i < xs.length
  · -- within: the list is lent once more
    obtain ⟨xsL, _, oa', hxL, hAL⟩ := R'.oL (at_j L)
    obtain ⟨_, gx', _⟩ := R'.own j x oa'
    obtain ⟨Ru, no⟩ := R'.unslot oa'
    rw [List.set_set] at Ru no
    have Rd := Ru.del h0 gx' nbx no
    have noH : ∀ i a, ¬ Own σ (hideOwn (δ1.set j .no)) i a := fun i a ⟨_, s, e, io⟩ => by rw [(hide_get e).1] at io; cases io
    have Ri := ((Rd.inner).undel hxL (R'.sz _ _ hxL)).reown (j := j) ev hxL hAL gx' del_same nbx (fun i => noH i x)
    obtain ⟨each, _⟩ := it B (DL.del H' x) G' H' σ _ G' Ri R'.g0
    obtain ⟨go, yld⟩ := each i xs[i] (List.getElem?_eq_getElem hi')
    rw [List.drop_eq_getElem_cons hi'] at q'
    refine .inr ⟨go, fun H2 => ∃ acc2 accD2 L2 G2, H2 D = some (.lst acc2) ∧ DdA X.K G2 acc2 accD2 ∧ acc2.length ≤ i + 1 ∧ Rel X.K B H0 G1 H2 σ (δ1.set j (.oL x L2)) G2 ∧ G2 D = none ∧ compM g te (wipeD (hideOwn (δ1.set j .no)) vs) j x (xs.drop (i + 1)) accD2 L2 (fun ys L' => AftM X.K B H0 G0 σ G Q (.ol ys) (δ1.set j (.oL x L'))),
      fun H2 ⟨acc2, accD2, L2, G2, h1, h2, h3, h4, h5, h7⟩ => ⟨m - 1, by omega, by omega, acc2, accD2, L2, G2, h1, h2, h3, h4, h5, h7⟩, fun y H3 hy => ?_⟩
    obtain ⟨G3, R3, s3, f3, hd⟩ := yld y H3 hy
    have R3w := R3.wipes vs
    rw [wipeD_set hj] at R3w
    refine ⟨B, DL.del H' x, G', _, G3, xs[i], R3w, hd, mg _ _ _ _ q' fun δ4 q4 σ4 ew R4 => ⟨ew.trans (wipe_wipe σ vs), ?_⟩⟩
    refine ⟨B, DL.del H' x, G', δ4, G3, R4, me _ _ _ q4 fun r δ6 q6 v H6 G6 R6 s6 ok => ?_⟩
    split at q6
    · rename_i y2 x2 L2 ey e2
      obtain ⟨rfl, q6⟩ := q6
      obtain ⟨G7, R7, s7, hy2⟩ := freeze R6 ok ey
      obtain ⟨xs2, ev2, oa2, hx2, hA2⟩ := R7.oL e2
      obtain ⟨_, gx2, _⟩ := R7.own j _ oa2
      have Ro := (Rd.outer R7).reown (j := j) ev hx2 hA2 gx2 h0 nbx no
      rw [List.set_set] at Ro
      have h2 : H6 D = some (.lst acc) := R7.ent _ _ (by rw [del_ne Dx]; exact eD) dB
      have h3 : G7 D = none := by
        cases z : G7 D with
        | none => rfl
        | some o =>
          rcases R7.gn _ _ z with y | y
          · rw [gD'] at y; cases y
          · rw [del_ne Dx, eD] at y; cases y
      have hl : (acc ++ [v]).length ≤ i + 1 := by rw [List.length_append]; show acc.length + 1 ≤ i + 1; omega
      refine ⟨acc, h2, by omega, acc ++ [v], accD ++ [y2], L2, G7, upd_same, (DdA.mono R7.g0 _ _ hA).append (.one hy2), hl, ?_, h3, q6⟩
      exact Ro.writeFree d0 h3 dB (dO2 L2) (by show (acc ++ [v]).length ≤ sizeLine; omega)
    · exact q6.elim
  · have ei : i = xs.length := by omega
    subst ei
    obtain ⟨_, stop⟩ := it B H0 G1 H' σ _ G' R' R'.g0
    rw [List.drop_length] at q'
    refine .inl ⟨stop, q' (.ref D) H' G' (R1.back R') (s1.trans R'.g0) ⟨⟨D, rfl, gD', acc, eD, hA⟩, fun z => (nomatch z), fun _ a e => ?_⟩⟩
    cases e
    exact ⟨d0, dB, dO2 L⟩
theorem tdLcM_mono (hi : MonoI ti) (mg : MonoG g) (me : MonoD te) : MonoD (tdLcM ti g te vs j) := fun δ Q Q' q w => hi _ _ _ q fun xs δ1 q => ⟨q.1, by
  have q2 := q.2
  split at q2
  · rename_i x L e
    exact compM_mono mg me (fun ys L' q => w _ _ q) _ _ _ q2
  · exact q2.elim⟩
theorem pdm_lc (hj : j ∉ vs) (hc : X.calm = true) (hN : X.N.Nodup) (hi : PDI X tg iter ti) (ok : BlkOk X.N X.env.scope scope own) (ev : own.map (·.2) = vs)
    (hg : ∀ s H C cl fp, PDG (Blk X scope s H C cl fp) tg vs g) (he : ∀ s H C cl fp, PDM (Blk X scope s H C cl fp) elt te)
    (hs : ∀ x, foldedSetIterable iter X.env x = pure x := by intro _; rfl) : PDM X (.ListComp elt [⟨tg, iter, [], 0⟩] scope pos) (tdLcM ti g te vs j) := by
  subst ev
  have m1 := (hg X.s_0 X.H_0 0 [] []).mono
  have m3 := (he X.s_0 X.H_0 0 [] []).mono
  exact ⟨PE.weak (pe_lc (te := tyM X.K te) (tt := tYes) (g := tyG X.K (own.map (·.2)) g) hc hN hi.pi ok (fun s H C cl fp => (hg s H C cl fp).pg) (fun s H C cl fp => pts_nil) (fun s H C cl fp => (he s H C cl fp).pe) hs) (tdLcM_run hj hi.mono m1 m3), tdLcM_mono hi.mono m1 m3⟩
end
end DL

set_option Elab.async false
set_option linter.all false
set_option maxRecDepth 100000
set_option maxHeartbeats 4000000
/-! DM4: list(range(..)). -/
namespace DL
open PySem PySem.Spec PyProof.Rows L2
theorem zs_vals {K : PySem.W.Frag} {G : Hp} : ∀ (k : Nat) (a : Int), DdA K G ((List.range k).map fun i => V.int (a + (i : Nat))) (zs a k)
  | 0, a => .nil
  | k + 1, a => by
    rw [List.range_succ_eq_map, List.map_cons, List.map_map]
    refine .cons ?_ ?_
    · rw [show a + ((0 : Nat) : Int) = a by omega]; exact .int a
    · have z := zs_vals (K := K) (G := G) k (a + 1)
      have e : ((fun i => V.int (a + (i : Nat))) ∘ Nat.succ) = fun i : Nat => V.int (a + 1 + (i : Nat)) := by
        funext i
        show V.int (a + ((i + 1 : Nat) : Int)) = _
        rw [show a + ((i + 1 : Nat) : Int) = a + 1 + (i : Int) by omega]
      rw [e]
      exact z
def tdLstR (ta : TD) : TD := fun δ Q => ta δ fun r δ' => match r with
  | .dt (.int n) => RgOk 0 n ∧ Q (.ol (zs 0 n.toNat)) δ'
  | _ => False
section
variable {X : Cx} {a : Expr} {p pos p1 pos1 : Pos} {ta : TD}
theorem pd_listR (hc : X.calm = true) (hg : Gl X "list") (hm : X.mg "list" = none) (hg2 : Gl X "range") (hm2 : X.mg "range" = none) (ha : PD X a ta)
    (na : starEach [a] X.env = (false, eval a X.env) :: starEach [] X.env := by rfl)
    (nb : starEach [.Call (.Name "range" p1) [a] [] pos1] X.env = (false, eval (.Call (.Name "range" p1) [a] [] pos1) X.env) :: starEach [] X.env := by rfl) :
    PD X (.Call (.Name "list" p) [.Call (.Name "range" p1) [a] [] pos1] [] pos) (tdLstR ta) := by
  refine ⟨PE.weak (pe_listRg hc hg hm (prg_1 hg2 hm2 ha.pe na) nb) fun σ H Q ⟨B, H0, G0, δ, G, R, q⟩ => ?_, fun δ Q Q' q w => ha.mono _ _ _ q fun r δ1 q => ?_⟩
  · refine ⟨B, H0, G0, δ, G, R, ha.mono _ _ _ q fun r δ1 q v H1 G1 R1 s1 f1 ok => ?_⟩
    split at q
    · rename_i n
      cases ok.1
      refine ⟨n, rfl, q.1, fun l hl => ?_⟩
      have hz := q.1.2.2.2.2
      have e0 : rgV 0 n = (List.range n.toNat).map fun i => V.int (0 + (i : Nat)) := by
        unfold rgV
        rw [Int.sub_zero]
      have hd : DdA X.K G1 (rgV 0 n) (zs 0 n.toNat) := by rw [e0]; exact zs_vals _ _
      exact aft_own (s := .ol (zs 0 n.toNat)) R1 hl (show (rgV 0 n).length ≤ sizeLine by rw [rgV_length, sizeLine_eq]; omega) rfl ⟨_, upd_same, hd⟩ (aft_step s1 f1 _ _ q.2)
    · exact q.elim
  · split at q
    · exact ⟨q.1, w _ _ q.2⟩
    · exact q
end
theorem fm_tup (f : Fm) : ∃ xs, f.d = .tup xs := by
  cases f with
  | node g xs => rw [Fm.d]; cases g <;> first | exact ⟨_, rfl⟩ | (unfold hdD; split <;> exact ⟨_, rfl⟩)
  | _ => rw [Fm.d]; exact ⟨_, rfl⟩
/-- a def that is never asked -/
theorem fnm_no {P : Program} {w : World} {K : PySem.W.Frag} {mg : Str → Option Value} {base : Heap} {k n : Nat} {x : Str} {st : Stmt} {ps N : List Str} {t : TM} (D0 : Dfn K mg x st ps) (S : FnScope N ps (defScope st)) (hn : ps.length = n + 1) (h : ∀ rs L Q, ¬ t rs L Q) : FnM P w K mg base (k + 1) x n t := by
  obtain ⟨f, fd, F, hm, hbd⟩ := D0.ex
  refine ⟨⟨f, fd, ps, ?_, hm, F.kp, hbd⟩, fun rs L Q Q' q => (h _ _ _ q).elim, fun rs L Q q => (h _ _ _ q).elim⟩
  exact F.ok S (fun vs H Q E q => by obtain ⟨ws, a, B, G, rs, L, _, _, _, _, _, _, _, _, _, q⟩ := q; exact (h _ _ _ q).elim) fun cdv A outer s H vs Q E hr q => by obtain ⟨ws, a, B, G, rs, L, _, _, _, _, _, _, _, _, _, q⟩ := q; exact (h _ _ _ q).elim
end DL

set_option Elab.async false
set_option linter.all false
set_option maxRecDepth 100000
set_option maxHeartbeats 4000000
/-! DM5: while; x.pop(), x.extend(e); x in l over data; a list that is given away; repr of any plain data. -/
namespace DL
open PySem PySem.Spec PyProof.Rows L2
/-! ### while -/
def tdWhile (c : TDT) (tb : TDS) : TDS := fun D δ => ∃ W : Nat → List Sl → Prop, (∃ m, W m δ) ∧ ∀ m δ, W m δ →
  c δ fun b δ1 => if b = true then tb { D with nx := fun δ' => ∃ m', m' < m ∧ W m' δ', ct := fun δ' => ∃ m', m' < m ∧ W m' δ', bk := D.nx } δ1 else D.nx δ1
section
variable {X : Cx} {c : Expr} {body : List Stmt} {pos : Pos} {tc : TDT} {tb : TDS}
theorem pds_while (hp : PassesOwn (model X.prog X.w) X.A X.env X.xe) (hc : PDT X c tc) (hb : PDSs X body tb) : PDS X (.While c body [] pos) (tdWhile tc tb) := by
  refine ⟨PS.weak (ps_while hp hc.pt hb.ps) fun D σ H ⟨B, H0, G0, δ, G, R, q⟩ => ?_, fun D D' δ w q => ?_⟩
  · obtain ⟨W, ⟨m0, w0⟩, turn⟩ := q
    refine ⟨fun m σ' H' => ∃ δ' G', Rel X.K B H0 G0 H' σ' δ' G' ∧ W m δ', ⟨m0, δ, G, R, w0⟩, fun m σ1 H1 ⟨δ1, G1, R1, w1⟩ => ?_⟩
    refine ⟨B, H0, G0, δ1, G1, R1, hc.mono _ _ _ (turn m δ1 w1) fun b δ2 q H2 G2 R2 s2 f2 => ?_⟩
    cases b with
    | true =>
      refine ⟨fun σ' H' => ∃ m', m' < m ∧ ∃ δ' G', Rel X.K B H0 G0 H' σ' δ' G' ∧ W m' δ', fun σ' H' ⟨m', hm, h⟩ => ⟨m', hm, h⟩, ?_⟩
      refine ⟨B, H0, G0, δ2, G2, R2, hb.mono _ _ _ ?_ q⟩
      exact ⟨fun δ5 ⟨m', hm, q5⟩ σ5 H5 G5 R5 => ⟨m', hm, δ5, G5, R5, q5⟩, fun r δ5 q5 => q5, fun δ5 q5 => q5, fun δ5 ⟨m', hm, q5⟩ σ5 H5 G5 R5 => ⟨m', hm, δ5, G5, R5, q5⟩, fun C ns ds δ5 q5 => q5⟩
    | false => exact q σ1 H2 G2 R2
  · obtain ⟨W, h0, turn⟩ := q
    refine ⟨W, h0, fun m δ1 w1 => hc.mono _ _ _ (turn m δ1 w1) fun b δ2 q => ?_⟩
    cases b with
    | true => exact hb.mono { D with nx := fun δ' => ∃ m', m' < m ∧ W m' δ', ct := fun δ' => ∃ m', m' < m ∧ W m' δ', bk := D.nx } { D' with nx := fun δ' => ∃ m', m' < m ∧ W m' δ', ct := fun δ' => ∃ m', m' < m ∧ W m' δ', bk := D'.nx } _ ⟨fun _ h => h, w.rt, fun _ h => w.nx _ h, fun _ h => h, w.ex⟩ q
    | false => exact w.nx _ q
end
/-! ### x.pop(): its reading has no frame -/
def tdPop (i : Nat) : TD := fun δ Q => match δ[i]? with
  | some (.ol ds) => match ds.getLast? with
    | some d => Q (.dt d) (δ.set i (.ol ds.dropLast))
    | none => False
  | _ => False
theorem DdA.dropLast {K : PySem.W.Frag} {G : Hp} {vs : List V} {ds : List D} (h : DdA K G vs ds) : DdA K G vs.dropLast ds.dropLast := by
  rw [List.dropLast_eq_take, List.dropLast_eq_take, h.len]
  exact h.take _
section
variable {X : Cx} {o e : Expr} {pos p p1 p2 : Pos} {ta : TD} {i : Nat}
theorem pdm_pop {i : Nat} (ho : PE X o (tVar i)) (hbase : attributeBase o "pop" X.env (eval o X.env) = eval o X.env := by rfl) (hline : (p1.endLine == p2.line) = true := by rfl) :
    PDM X (.Call (.Attribute o "pop" p1) [] [] p2) (tdPop i) := by
  refine ⟨PE.weak (pe_bm0 PySem.F.plainAttrs_list PySem.F.slot_list_pop PySem.F.type_list_pop mt_pop ho hbase hline) fun σ H Q ⟨B, H0, G0, δ, G, R, q⟩ => ?_, fun δ Q Q' q w => ?_⟩
  · unfold tdPop at q
    split at q
    · rename_i ds e1
      split at q
      · rename_i d e2
        obtain ⟨a, xs, ev, oa, ha, hA⟩ := R.ol e1
        rw [List.getLast?_eq_getElem?] at e2
        obtain ⟨y, ey, hy⟩ := hA.get e2
        rw [← hA.len] at ey
        refine ⟨_, ev, .inl ⟨rfl, _, SqL.of ha⟩, a, xs, y, rfl, rfl, ha, ey, ?_⟩
        refine q _ _ G (R.write oa (o := .lst xs.dropLast) ?_ rfl ⟨_, upd_same, hA.dropLast⟩) (Same.refl _) (resOk_dt hy)
        have z := R.sz _ _ ha
        show xs.dropLast.length ≤ sizeLine
        have z2 : xs.length ≤ sizeLine := z
        rw [List.length_dropLast]
        omega
      · exact q.elim
    · exact q.elim
  · unfold tdPop at q ⊢
    split at q
    · split at q
      · exact w _ _ q
      · exact q
    · exact q
/-- x = e, e changes an owned list -/
theorem pds_setM {i : Nat} {x : Str} {pos' : Pos} (hN : X.N.Nodup) (hi : X.N[i]? = some x) (hx : Loc X.env.scope x) (h : PDM X e ta) (hs : swapsWith e (some (.Name x pos')) pos.line X.env = pure false := by rfl)
    (hf : X.fn x = true ∨ X.env.scope.names.lookup x = some .local := by first | exact .inl rfl | exact .inr rfl) : PDS X (.Assign [.Name x pos'] e pos) (tdSet i ta) :=
  ⟨PS.weak (ps_set hN hi hx h.pe hs hf) fun D σ H ⟨B, H0, G0, δ, G, R, q⟩ => ⟨B, H0, G0, δ, G, R, h.mono _ _ _ q fun r δ' q v H' G' R' s' ok => q _ _ _ (R'.assign ok i)⟩, fun D D' δ w q => h.mono _ _ _ q fun r δ' q => w.nx _ q⟩
/-! ### x.extend(e) -/
def tdExt (i : Nat) (te : TD) : TDS := fun D δ => match δ[i]? with
  | some (.ol _) => te δ fun r δ1 => match fz r, δ1[i]? with
    | some (.lst es), some (.ol ds) => ds.length + es.length ≤ sizeLine ∧ D.nx (δ1.set i (.ol (ds ++ es)))
    | _, _ => False
  | _ => False
end
theorem pds_ext {X : Cx} {o e : Expr} {pos p1 p2 : Pos} {te : TD} {i : Nat} (ho : PE X o (tVar i)) (he : PD X e te) (hbase : attributeBase o "extend" X.env (eval o X.env) = eval o X.env := by rfl)
    (hfew : ((backTo p2 (starEach [e] X.env)).all (fun x => !x.1) && (backToKw p2 (keywordEach [] X.env)).all (fun x => x.1.isSome)
      && decide ([e].length + ([] : List Keyword).length + (if ([] : List Keyword).isEmpty then 0 else 1) < 30)) = true := by rfl)
    (hline : (p1.endLine == p2.line) = true := by rfl) (hst : starEach [e] X.env = (false, eval e X.env) :: starEach [] X.env := by rfl) (hplain : (backTo p2 (starEach [] X.env)).any (·.1) = false := by rfl)
    (hs : swapsWith (.Call (.Attribute o "extend" p1) [e] [] p2) none pos.line X.env = pure false := by rfl) : PDS X (.Expr (.Call (.Attribute o "extend" p1) [e] [] p2) pos) (tdExt i te) := by
  refine ⟨PS.weak (ps_expr (pe_bm PySem.F.plainAttrs_list PySem.F.slot_list_extend PySem.F.type_list_extend mt_extend ho (pa_cons he.pe pa_nil hst) hbase hfew hline hst hplain) hs) fun D σ H ⟨B, H0, G0, δ, G, R, q⟩ => ?_, fun D D' δ w q => ?_⟩
  · unfold tdExt at q
    split at q
    · rename_i ds0 e0
      obtain ⟨a0, xs0, ev0, oa0, ha0, hA0⟩ := R.ol e0
      refine ⟨_, ev0, .inl ⟨rfl, _, SqL.of ha0⟩, ⟨B, H0, G0, δ, G, R, he.mono _ _ _ q fun r δ1 q v H1 G1 R1 s1 f1 ok => ?_⟩⟩
      split at q
      · rename_i es ds e1 e2
        obtain ⟨G2, R2, s2, hd⟩ := freeze R1 ok e1
        obtain ⟨a, xs, ev, oa, ha, hA⟩ := R2.ol e2
        have ea : a = a0 := by
          rw [ev0] at ev; cases ev; rfl
        subst ea
        cases hd with
        | @lst b ys _ h1 h2 =>
          have zz : xs.length + ys.length ≤ sizeLine := by rw [hA.len, h2.len]; exact q.1
          refine ⟨a, b, xs, ys, rfl, rfl, ha, R2.sub _ _ h1, zz, ?_⟩
          exact q.2 _ _ _ (R2.write oa (o := .lst (xs ++ ys)) (by show (xs ++ ys).length ≤ sizeLine; rw [List.length_append]; exact zz) rfl ⟨_, upd_same, hA.append h2⟩)
      · exact q.elim
    · exact q.elim
  · unfold tdExt at q ⊢
    split at q
    · refine he.mono _ _ _ q fun r δ1 q => ?_
      split at q
      · exact ⟨q.1, w.nx _ q.2⟩
      · exact q
    · exact q
/-! ### x in l, over data -/
def fInD (neg : Bool) : FD2 := fun d e δ Q => match e with
  | .lst xs => SeqAt.shaped (py d) = true ∧ SeqAt.shaped (py (.lst xs)) = true ∧ Q (.dt (.bl (if neg then !(pyA xs).any fun z => PyData.eqv z (py d) else (pyA xs).any fun z => PyData.eqv z (py d)))) δ
  | _ => False
theorem mono_fInD {neg : Bool} : MonoF2 (fInD neg) := fun d e δ Q Q' q w => by
  unfold fInD at q ⊢
  split at q
  · exact ⟨q.1, q.2.1, w _ _ q.2.2⟩
  · exact q
theorem opS_inD {K : PySem.W.Frag} : OpS K (rInD K) (fInD false) := by
  intro B H0 G0 H σ δ G x y d e Q R hx hy q
  unfold fInD at q
  split at q
  · exact ⟨_, _, Dd.dp R.sub _ x (shaped_lay q.1) hx, Dd.dp R.sub _ y (shaped_lay q.2.1) hy, q.1, q.2.1, aft_here R (.bl _) q.2.2⟩
  · exact q.elim
theorem opS_notInD {K : PySem.W.Frag} : OpS K (rNotInD K) (fInD true) := by
  intro B H0 G0 H σ δ G x y d e Q R hx hy q
  unfold fInD at q
  split at q
  · exact ⟨_, _, Dd.dp R.sub _ x (shaped_lay q.1) hx, Dd.dp R.sub _ y (shaped_lay q.2.1) hy, q.1, q.2.1, aft_here R (.bl _) q.2.2⟩
  · exact q.elim
section
variable {X : Cx} {a b : Expr} {pos : Pos} {ta tb : TD}
theorem pd_inD (hu : X.A.units + 65 < cLine) (ha : PD X a ta) (hb : PD X b tb) (hm : behindInMarks .In b = false := by rfl) : PD X (.Compare a [.In] [b] pos) (td2 (fInD false) ta tb) := pd_cmp (op_inD hu) mono_fInD opS_inD ha hb hm
theorem pdt_inD (hu : X.A.units + 65 < cLine) (ha : PD X a ta) (hb : PD X b tb) (hm : behindInMarks .In b = false := by rfl) : PDT X (.Compare a [.In] [b] pos) (tdBool (td2 (fInD false) ta tb)) := pdt_of (op_inD hu) mono_fInD opS_inD ha hb hm
theorem pd_notInD (hu : X.A.units + 65 < cLine) (ha : PD X a ta) (hb : PD X b tb) (hm : behindInMarks .NotIn b = false := by rfl) : PD X (.Compare a [.NotIn] [b] pos) (td2 (fInD true) ta tb) := pd_cmp (op_notInD hu) mono_fInD opS_notInD ha hb hm
theorem pdt_notInD (hu : X.A.units + 65 < cLine) (ha : PD X a ta) (hb : PD X b tb) (hm : behindInMarks .NotIn b = false := by rfl) : PDT X (.Compare a [.NotIn] [b] pos) (tdBool (td2 (fInD true) ta tb)) := pdt_of (op_notInD hu) mono_fInD opS_notInD ha hb hm
end
/-! ### a list != [] -/
def rNeL : R2 := fun x y H Q => ∃ a b xs ys, x = .ref a ∧ y = .ref b ∧ H a = some (.lst xs) ∧ H b = some (.lst ys) ∧ xs.length ≠ ys.length ∧ Q (.bl true) H
theorem op_neL {X : Cx} (hu : X.A.units < cLine) : OpR X (compareOp .NotEq) rNeL := by
  intro pins s σ H x y v u Q I rx ry h
  obtain ⟨a, b, xs, ys, rfl, rfl, ha, hb, hn, q⟩ := h
  cases rx; cases ry
  obtain ⟨its, r1, e1, _⟩ := I.list (SqL.of ha)
  obtain ⟨its2, r2, e2, _⟩ := I.list (SqL.of hb)
  refine SeqAt.RcNeAt.lists_lengths e1.isList e2.isList ?_ hu _ _ _ _ ⟨.bl true, H, I, rfl, q⟩
  rw [List.size_toArray, List.size_toArray, ← r1.length, ← r2.length]
  exact bne_iff_ne.mpr hn
def fNeE : FD2 := fun d e δ Q => match d, e with
  | .lst xs, .lst [] => Q (.dt (.bl (!xs.isEmpty))) δ
  | _, _ => False
theorem mono_fNeE : MonoF2 fNeE := fun d e δ Q Q' q w => by
  unfold fNeE at q ⊢
  split at q <;> first | exact w _ _ q | exact q
theorem opS_neE {K : PySem.W.Frag} : OpS K (fun x y H Q => rNeL x y H Q ∨ rNeD K x y H Q) fNeE := by
  intro B H0 G0 H σ δ G x y d e Q R hx hy q
  unfold fNeE at q
  split at q
  · rename_i xs
    cases xs with
    | nil => exact .inr ⟨_, _, Dd.dp R.sub _ x rfl hx, Dd.dp R.sub _ y rfl hy, rfl, rfl, aft_here R (.bl _) q⟩
    | cons z zs =>
      cases hx with
      | @lst a vs _ h1 h2 =>
        cases hy with
        | @lst b ws _ h3 h4 =>
          refine .inl ⟨a, b, vs, ws, rfl, rfl, R.sub _ _ h1, R.sub _ _ h3, ?_, aft_here R (.bl _) q⟩
          rw [h2.len, h4.len]
          simp
  · exact q.elim
section
variable {X : Cx} {a b : Expr} {pos : Pos} {ta tb : TD}
theorem pd_neE (hu : X.A.units + 64 < cLine) (ha : PD X a ta) (hb : PD X b tb) (hm : behindInMarks .NotEq b = false := nomark _) : PD X (.Compare a [.NotEq] [b] pos) (td2 fNeE ta tb) := pd_cmp (opR_or (op_neL (by omega)) (op_neD hu)) mono_fNeE opS_neE ha hb hm
theorem pdt_neE (hu : X.A.units + 64 < cLine) (ha : PD X a ta) (hb : PD X b tb) (hm : behindInMarks .NotEq b = false := nomark _) : PDT X (.Compare a [.NotEq] [b] pos) (tdBool (td2 fNeE ta tb)) := pdt_of (opR_or (op_neL (by omega)) (op_neD hu)) mono_fNeE opS_neE ha hb hm
end
end DL

set_option Elab.async false
set_option linter.all false
set_option maxRecDepth 100000
set_option maxHeartbeats 4000000
/-! DM6: a made list that is given to a def; repr of any plain data; heads that know sys.modules' place. -/
namespace DL
open PySem PySem.Spec PyProof.Rows L2
abbrev TV := List Sl → List D → (Sl → Prop) → Prop
def MonoGv (t : TV) : Prop := ∀ rs L (Q Q' : Sl → Prop), t rs L Q → (∀ r, Q r → Q' r) → t rs L Q'
def spV (K : PySem.W.Frag) (n : Nat) (t : TV) : Sp := fun vs H Q _ => ∃ a ws B G rs L, vs = .ref a :: ws ∧ ws.length = n ∧ Same G H ∧ (∀ b c, (b, c) ∈ B → BagOk H G b c) ∧ HSz H ∧ ArgsOk K B G ws rs ∧ G a = none ∧ NotB B a ∧ (∃ xs, H a = some (.lst xs) ∧ DdA K G xs L) ∧
  t rs L (fun r => ∀ v H' G', RetOk K B (del H a) G H' G' v r → Q v H')
theorem rel_startV {K : PySem.W.Frag} {B : Bg} {H G : Hp} {N : List Str} {ws : List V} {rs : List Sl} {x : Addr} {xs : List V} {L : List D} (hx : H x = some (.lst xs)) (hA : DdA K G xs L) (gx : G x = none) (nx : NotB B x) (sub : Same G H) (bag : ∀ b c, (b, c) ∈ B → BagOk H G b c) (sz : HSz H) (oks : ArgsOk K B G ws rs) :
    Rel K B (DL.del H x) G H (start N (.ref x :: ws)) (startD N (.ol L :: rs)) G := by
  have R1 : Rel K B (DL.del H x) G (DL.del H x) (start N (.non :: ws)) (startD N (.dt .non :: rs)) G := rel_start (fun b o e => by rw [del_ne (ne_of_none e gx)]; exact sub _ _ e) (fun b c e => (bag b c e).up (del_ne fun z => nx c (z ▸ e)) (Same.refl _) (bag b c e).gn) (fun b o e => sz b o (del_some e).2) ⟨.non, oks⟩
  obtain ⟨h1, h2, h3⟩ := R1.newOwn (p := x) del_same
  have R2 := R1.undel hx (sz _ _ hx)
  exact R2.assign (v := .ref x) (r := .ol L) ⟨⟨x, rfl, gx, xs, hx, hA⟩, (fun z => nomatch z), fun _ b e => by cases e; exact ⟨h1, h2, h3⟩⟩ 0
structure FnV (P : Program) (w : World) (K : PySem.W.Frag) (mg : Str → Option Value) (base : Heap) (k : Nat) (x : Str) (n : Nat) (t : TV) : Prop where
  ex : ∃ f fd ps, FnG P w K mg base k f fd ps (spV K n t) ∧ mg x = some (.ref f) ∧ PySem.W.keepIn K (.ref f) = true ∧ Binds K fd ps []
  mono : MonoGv t
/-- f(e, y): e makes the list -/
def tdCallV (t : TV) (te ty : TD) : TD := fun δ Q => te δ fun r δ1 => match r with
  | .ol L => ty (hideOwn δ1) fun r2 _ => match az r2 with
    | some r' => t [r'] L (fun s => Q s δ1)
    | none => False
  | _ => False
theorem pdm_fnV {X : Cx} {e y : Expr} {pos p : Pos} {k : Nat} {t : TV} {x : Str} {te ty : TD} (F : FnV X.prog X.w X.K X.mg X.base k x 1 t) (gd : Ng X.A) (hr : Room k X.A) (hg : Gl X x) (he0 : PD X e te) (hy : PD X y ty)
    (hdb : (x == ("__debug__" : Str)) = false := by decide) (he : starEach [e, y] X.env = (false, eval e X.env) :: starEach [y] X.env := by rfl) (he2 : starEach [y] X.env = (false, eval y X.env) :: starEach [] X.env := by rfl) (hpl : (backTo pos (starEach [y] X.env)).any (·.1) = false := by rfl) :
    PDM X (.Call (.Name x p) [e, y] [] pos) (tdCallV t te ty) := by
  obtain ⟨f, fd, ps, h1, h2, h3, h4⟩ := F.ex
  refine ⟨PE.weak (pe_callG h1 gd hr hg h2 h3 h4 .nil (pa_cons he0.pe (pa_cons hy.pe pa_nil he2) he) hdb he hpl) fun σ H Q ⟨B, H0, G0, δ, G, R, q⟩ => ?_, fun δ Q Q' q w => he0.mono _ _ _ q fun r δ1 q => ?_⟩
  · refine ⟨B, H0, G0, δ, G, R, he0.mono _ _ _ q fun r δ1 q v H1 G1 R1 s1 f1 ok => ?_⟩
    split at q
    · rename_i L
      obtain ⟨a, rfl, ga, xs, hx, hD⟩ := ok.1
      obtain ⟨h0, nb, no⟩ := ok.2.2 rfl a rfl
      refine ⟨B, H1, G1, hideOwn δ1, G1, R1.inner, hy.mono _ _ _ q fun r2 δ2 q2 v2 H3 G3 R3 s3 f3 ok2 => ?_⟩
      split at q2
      · rename_i r' ea
        obtain ⟨G4, R4, s4, hA⟩ := freezeA R3 ok2 ea
        have R5 := R1.outer R4
        have ga4 : G4 a = none := by
          cases z : G4 a with
          | none => rfl
          | some o =>
            rcases R4.gn a o z with y | y
            · rw [ga] at y; cases y
            · rw [hx] at y; cases y
        have hx3 := f3 a _ hx nb
        refine ⟨a, [v2], B, G4, [r'], L, rfl, rfl, R5.sub, R5.bag, R5.sz, ⟨hA, trivial⟩, ga4, nb, ⟨xs, hx3, hD.mono (s3.trans s4)⟩, F.mono _ _ _ _ q2 fun s q v' H' G' kk => ?_⟩
        obtain ⟨R6, ok6⟩ := (R5.del h0 ga4 nb no).call kk
        exact q v' H' G' R6 (((s1.trans s3).trans s4).trans kk.gg) ok6
      · exact q2.elim
    · exact q.elim
  · split at q
    · refine hy.mono _ _ _ q fun r2 δ2 q2 => ?_
      split at q2
      · exact F.mono _ _ _ _ q2 fun s q => w _ _ q
      · exact q2
    · exact q
theorem FnV.of {P : Program} {w : World} {K : PySem.W.Frag} {mg : Str → Option Value} {base : Heap} {x : Str} {st : Stmt} {N ps : List Str} {k n : Nat} {t : TV} (D0 : Dfn K mg x st ps) (S : FnScope N ps (defScope st)) (hn : ps.length = n + 1) (mt : MonoGv t)
    (hb : ∀ (f : Addr) (cdv : Value) (A : Around) (outer : List Env) (s : Shared) (H : Hp) (E : XK), Ng A → Room k (A.deeper (envOfC x (defScope st) s.heap.objs.size f cdv)) →
      ∃ tS, PDSs (cxOf CX0 P w K mg base N x (defScope st) f cdv A outer s H E).nox (defBody st) tS ∧ ∀ rs L (Q : Sl → Prop), t rs L Q → tS { nx := fun _ => False, rt := fun r _ => Q r } (startD N (.ol L :: rs))) :
    FnV P w K mg base (k + 1) x n t := by
  obtain ⟨f, fd, F, hm, hbd⟩ := D0.ex
  refine ⟨⟨f, fd, ps, ?_, hm, F.kp, hbd⟩, mt⟩
  refine fun_okG F S (fun vs H Q E h => by obtain ⟨a, ws, B, G, rs, L, rfl, hl, _⟩ := h; rw [List.length_cons, hl]; exact hn.symm) fun cdv A outer s H vs Q E gd hr want => ?_
  obtain ⟨tS, h, le⟩ := hb f cdv A outer s H E gd hr
  refine ⟨_, h.ps, ?_⟩
  obtain ⟨a, ws, B, G, rs, L, rfl, hl, sub, bag, sz, oks, ga, nb, ⟨xs, hx, hA⟩, q⟩ := want
  refine ⟨B, _, G, _, G, rel_startV hx hA ga nb sub bag sz oks, h.mono _ _ _ ?_ (le rs L _ q)⟩
  exact ⟨fun _ q => q.elim, fun r δ q v σ' H' G' R' ok => q v H' G' ⟨R'.g0, R'.sub, R'.bag, fun b o e n => R'.ent b o e n, R'.sz, R'.gn, ok.1, ok.2.1, fun io b e => (ok.2.2 io b e).1⟩, fun _ q => q.elim, fun _ q => q.elim, fun _ _ _ _ q => q.elim⟩
/-! ### repr of any plain data -/
section
variable {X : Cx} {pins : List (Addr × Obj)} {σ : L2.St} {H G : Hp} {s : Shared}
mutual
theorem Dd.readsM (I : Inv X pins σ H s) (hs : H sysModules = none) (e : Same G H) : ∀ (d : D) (v : V) (u : Value), plainD d = true → Dd X.K G v d → RelV v u → ∃ as, Reads s.heap u (py d) as ∧ sysModules ∉ as
  | .non, _, _, _, h, r => by cases h; cases r; exact ⟨_, .none, List.not_mem_nil⟩
  | .bl b, _, _, _, h, r => by cases h; cases r; exact ⟨_, .bool b, List.not_mem_nil⟩
  | .int i, _, _, _, h, r => by cases h; obtain ⟨t, rfl⟩ := r; exact ⟨_, .int i t, List.not_mem_nil⟩
  | .str x, _, _, _, h, r => by cases h; obtain ⟨t, rfl⟩ := r; exact ⟨_, .str x t, List.not_mem_nil⟩
  | .lst ds, _, _, c, h, r => by
    cases h with
    | @lst a _ _ h1 h2 =>
      cases r
      obtain ⟨its, rv, ⟨o, n, ho, hc, _, hd⟩, _⟩ := I.list (SqL.of (e _ _ h1))
      obtain ⟨as, hr, hn⟩ := DdA.readsM I hs e ds _ its c h2 rv
      refine ⟨_, .list ho hc hd hr, fun z => ?_⟩
      rcases List.mem_cons.mp z with y | y
      · rw [y, e _ _ h1] at hs; cases hs
      · exact hn y
  | .tup ds, _, _, c, h, r => by
    cases h with
    | tup h1 h2 =>
      cases r
      obtain ⟨its, rv, ⟨o, ho, hc, n, hd⟩, _⟩ := I.tuple (sameT e h1)
      obtain ⟨as, hr, hn⟩ := DdA.readsM I hs e ds _ its c h2 rv
      exact ⟨_, .tuple ho hc hd hr, hn⟩
  | .dK ks ds, _, _, c, h, r => by
    cases h with
    | @dK a _ xs _ h0 h1 h2 =>
      cases r
      obtain ⟨_, sm, vs, kv, o, es, ep, ho, hx, hd, _, hp, _⟩ := I.hok a _ (e _ _ h1)
      obtain ⟨z1, z2⟩ := kv_split h0 kv
      have c2 : plainA ds = true := by
        have c' : (decide (ks.length = ds.length) && plainA ds) = true := c
        rw [Bool.and_eq_true] at c'
        exact c'.2
      obtain ⟨as, hr, hn⟩ := DdA.readsM I hs e ds _ (vs.map (·.2)) c2 h2 z2
      have k1 := key_reads (h := s.heap) hp
      have k2 : (vs.map fun p => keyPy p.1) = ks.map keyPy := by rw [← z1, List.map_map]; rfl
      rw [k2] at k1
      have l1 : (ks.map keyPy).length = (pyA ds).length := by rw [pyA_map, List.length_map, List.length_map, h0, h2.len]
      refine ⟨_, Reads.dict (kvs := (ks.map keyPy).zip (pyA ds)) ho hx.1 hd (as := []) (bs := as) ?_ ?_, fun hm => ?_⟩
      · rw [List.map_fst_zip (Nat.le_of_eq l1)]; exact k1
      · rw [List.map_snd_zip (Nat.le_of_eq l1.symm), val_eq hp]; exact hr
      · have hm2 : sysModules ∈ a :: as := by simpa using hm
        rcases List.mem_cons.mp hm2 with z | z
        · rw [← z] at sm
          exact absurd sm (by decide)
        · exact hn z
  | .dT _ _, _, _, c, _, _ => by cases c
  | .ins _ _ _, _, _, c, _, _ => by cases c
theorem DdA.readsM (I : Inv X pins σ H s) (hs : H sysModules = none) (e : Same G H) : ∀ (ds : List D) (vs : List V) (us : List Value), plainA ds = true → DdA X.K G vs ds → Vals vs us → ∃ as, ReadsAll s.heap us (pyA ds) as ∧ sysModules ∉ as
  | [], _, _, _, h, r => by cases h; cases r; exact ⟨_, .nil, List.not_mem_nil⟩
  | d :: ds, _, _, c, h, r => by
    cases h with
    | cons h1 h2 =>
      cases r with
      | cons r1 r2 =>
        have c' : (plainD d && plainA ds) = true := c
        rw [Bool.and_eq_true] at c'
        obtain ⟨as, hr, hn⟩ := Dd.readsM I hs e d _ _ c'.1 h1 r1
        obtain ⟨bs, hr2, hn2⟩ := DdA.readsM I hs e ds _ _ c'.2 h2 r2
        refine ⟨_, .cons hr hr2, fun hm => ?_⟩
        rcases List.mem_append.mp hm with q | q
        · exact hn q
        · exact hn2 q
end
end
structure ShowM (d : D) : Prop where
  plain : plainD d = true
  nums : (py d).showable = true
  len : (py d).shown.length ≤ sizeLine
  depth : (py d).depth ≤ 100
theorem showM_of {d : D} (h1 : plainD d = true) (h2 : smallD d) (h3 : costD d ≤ sizeLine) (h4 : (py d).depth ≤ 100) : ShowM d :=
  ⟨h1, (costD_ok d h2).2, Nat.le_trans (costD_ok d h2).1 h3, h4⟩
def rReprM (K : PySem.W.Frag) : List V → Hp → VK → Prop := fun vs H Q => ∃ v d G, vs = [v] ∧ Same G H ∧ Dd K G v d ∧ ShowM d ∧ Q (.str (py d).shown) H
section
variable {X : Cx}
theorem call_reprM (sm : (X.K.lookup sysModules).isSome = true) (hg : Ng X.A) (hu : X.A.units + 150 < cLine) : CallR X (.builtin "repr") (rReprM X.K) := by
  intro pins s σ H xs us Q I r h
  obtain ⟨v, d, G, rfl, sub, hd, ok, q⟩ := h
  obtain ⟨u, rfl, rv⟩ := vals1 r
  have fin : ∀ (h' : Heap) (w : Tok) (tk : Tok), (∀ b o, s.heap.get? b = some o → h'.get? b = some o) → EP X pins σ Q (.str (py d).shown w) { s with heap := h', toks := tk } :=
    fun h' w tk hk => ⟨.str _, H, I.kept (t' := tk) hk, ⟨w, rfl⟩, q⟩
  have hs : H sysModules = none := by
    obtain ⟨ob, eo⟩ := Option.isSome_iff_exists.mp sm
    exact (I.bs _ _ (I.mod.kin _ _ eo)).2
  have big : ∀ a, u = .ref a → wpAny (model X.prog X.w) X.A (call (.builtin "repr") [u]) (EP X pins σ Q) X.xe s := by
    rintro a rfl
    obtain ⟨as, rd, ns⟩ := Dd.readsM I hs sub d v _ ok.plain hd rv
    exact repr_of_reads' (h₀ := s.heap) rd ok.nums (fun _ => ns) hg (by have := ok.depth; omega) (fun _ _ e => e) (fun h' w tk hk => fin h' w tk hk) ok.len
  cases hd with
  | non => cases rv; exact PySem.P.repr_of_none (fin s.heap _ _ fun _ _ e => e)
  | bl b => cases rv; exact PySem.P.repr_of_bool (fin s.heap _ _ fun _ _ e => e)
  | int i =>
    obtain ⟨t, rfl⟩ := rv
    exact PySem.P.repr_of_int (by simpa [py, PyData.showable] using ok.nums) (fin s.heap _ _ fun _ _ e => e)
  | str x =>
    obtain ⟨t, rfl⟩ := rv
    exact PySem.P.repr_of_str (fin s.heap _ _ fun _ _ e => e) ok.len
  | lst _ _ => cases rv; exact big _ rfl
  | tup _ _ => cases rv; exact big _ rfl
  | dK _ _ _ => cases rv; exact big _ rfl
  | dT _ _ _ => cases rv; exact big _ rfl
  | ins _ _ _ => cases rv; exact big _ rfl
def gReprM : D → List Sl → QD → Prop := fun d δ Q => ShowM d ∧ Q (.dt (.str (py d).shown)) δ
theorem pd_reprM {e : Expr} {u : TDA} {p pos : Pos} (sm : (X.K.lookup sysModules).isSome = true) (hgd : Ng X.A) (hu : X.A.units + 150 < cLine) (hg : Gl X "repr") (hm : X.mg "repr" = none) (h : PDA X [e] u) (he : starEach [e] X.env = (false, eval e X.env) :: starEach [] X.env := by rfl) (hpl : (backTo pos (starEach [] X.env)).any (·.1) = false := by rfl) :
    PD X (.Call (.Name "repr" p) [e] [] pos) (tdCB (f1 gReprM) u) :=
  pd_callB (call_reprM sm hgd hu) (mono_f1 fun d δ Q Q' q w => ⟨q.1, w _ _ q.2⟩)
    (callS_1 fun B H0 G0 H σ δ G v d Q R hd q => ⟨v, d, G, rfl, R.sub, hd, q.1, aft_here R (.str _) q.2⟩) hg hm boot_repr' h (by decide) (by decide) he hpl
end
/-! ### the head, with sys.modules in sight -/
def obsYG (n : Nat) (chk : PySem.W.Frag → Bool) (fn : List He.DefD) (g : Addr → Option Obj) : He.AlD := obsX chk fn (He.frG g (sysModules :: He.asD g n))
def hookY (n : Nat) (chk : PySem.W.Frag → Bool) (fn : List He.DefD) : PySem.W.Hook where
  α := He.AlD
  obs := fun s => obsYG n chk fn s.heap.get?
  val := fun _ => He.valD fn
  says := fun _ h => ∃ K : PySem.W.Frag, K.In h ∧ SaysX chk fn K
  of := fun _ _ e => ⟨_, He.frG_in, e⟩
  keeps := fun _ _ _ ⟨K, hK, c⟩ k => ⟨K, PySem.W.Frag.In.keeps hK k, c⟩
theorem obsYG_eq {n : Nat} {chk : PySem.W.Frag → Bool} {fn : List He.DefD} {g : Addr → Option Obj} {s : Shared} (h : ∀ a, g a = s.heap.get? a) : obsYG n chk fn g = (hookY n chk fn).obs s := by
  have e : g = s.heap.get? := funext h
  subst e
  rfl
end DL

set_option Elab.async false
set_option linter.all false
set_option maxRecDepth 100000
set_option maxHeartbeats 4000000
/-! DM7: formulas among data of any kind: plain facts. -/
namespace DL
open PySem PySem.Spec PyProof.Rows L2
theorem u65 {k : Nat} {A : Around} (r : Room k A) : A.units + 65 < cLine := by have := r.un; omega
/-! ### how deep tuples stand in one another -/
mutual
def hT : D → Nat
  | .tup xs => hTA xs + 1
  | .lst _ => 0
  | .dK _ _ => 0
  | .dT _ _ => 0
  | .ins _ _ _ => 0
  | .non => 0
  | .bl _ => 0
  | .int _ => 0
  | .str _ => 0
def hTA : List D → Nat
  | [] => 0
  | x :: xs => max (hT x) (hTA xs)
end
theorem hTA_mem : ∀ {xs : List D} {x : D}, x ∈ xs → hT x ≤ hTA xs
  | y :: ys, x, h => by
    rw [hTA]
    rcases List.mem_cons.mp h with rfl | h
    · exact Nat.le_max_left _ _
    · exact Nat.le_trans (hTA_mem h) (Nat.le_max_right _ _)
theorem hT_tup {xs : List D} {x : D} (h : x ∈ xs) : hT x < hT (.tup xs) := by
  rw [hT]
  exact Nat.lt_succ_of_le (hTA_mem h)
theorem hTA_le : ∀ {xs : List D} {n : Nat}, (∀ x ∈ xs, hT x ≤ n) → hTA xs ≤ n
  | [], n, _ => by rw [hTA]; exact Nat.zero_le _
  | x :: xs, n, h => by
    rw [hTA]
    exact Nat.max_le.mpr ⟨h x List.mem_cons_self, hTA_le fun y hy => h y (List.mem_cons_of_mem _ hy)⟩
theorem costA_mem : ∀ {xs : List D} {x : D}, x ∈ xs → costD x + 2 ≤ costA xs
  | y :: ys, x, h => by
    rw [costA]
    rcases List.mem_cons.mp h with rfl | h
    · omega
    · have := costA_mem h; omega
theorem costA_len : ∀ xs : List D, 2 * xs.length ≤ costA xs
  | [] => Nat.zero_le _
  | y :: ys => by rw [costA, List.length_cons]; have := costA_len ys; omega
theorem plainA_mem : ∀ {xs : List D} {x : D}, plainA xs = true → x ∈ xs → plainD x = true
  | y :: ys, x, h, hm => by
    have h' : (plainD y && plainA ys) = true := h
    rw [Bool.and_eq_true] at h'
    rcases List.mem_cons.mp hm with rfl | hm
    · exact h'.1
    · exact plainA_mem h'.2 hm
theorem plainA_of : ∀ {xs : List D}, (∀ x ∈ xs, plainD x = true) → plainA xs = true
  | [], _ => rfl
  | y :: ys, h => by
    show (plainD y && plainA ys) = true
    rw [h y List.mem_cons_self, plainA_of fun x hx => h x (List.mem_cons_of_mem _ hx)]
    rfl
theorem costA_app : ∀ xs ys : List D, costA (xs ++ ys) = costA xs + costA ys
  | [], ys => by rw [costA]; simp
  | x :: xs, ys => by rw [List.cons_append, costA, costA, costA_app xs ys]; omega
/-- what is_formula is asked about -/
structure Av (n : Nat) (d : D) : Prop where
  plain : plainD d = true
  ht : hT d < n
  cost : costD d ≤ 10000000
theorem Av.mono {m n : Nat} {d : D} (h : Av m d) (e : m ≤ n) : Av n d := ⟨h.plain, Nat.lt_of_lt_of_le h.ht e, h.cost⟩
theorem Av.mem {n : Nat} {xs : List D} (h : Av (n + 1) (.tup xs)) {x : D} (hx : x ∈ xs) : Av n x := by
  refine ⟨plainA_mem (show plainA xs = true from h.plain) hx, ?_, ?_⟩
  · have := hT_tup hx
    have := h.ht
    omega
  · have := costA_mem hx
    have h2 : costA xs + 3 ≤ 10000000 := h.cost
    omega
theorem Av.len {n : Nat} {xs : List D} (h : Av n (.tup xs)) : xs.length ≤ 5000000 := by
  have h2 : costA xs + 3 ≤ 10000000 := h.cost
  have := costA_len xs
  omega
theorem Av.tup {n : Nat} {xs : List D} (h0 : 1 ≤ n) (h1 : ∀ x ∈ xs, plainD x = true ∧ hT x < n) (h2 : costA xs + 3 ≤ 10000000) : Av (n + 1) (.tup xs) := by
  refine ⟨plainA_of fun x hx => (h1 x hx).1, ?_, h2⟩
  rw [hT]
  have := hTA_le (xs := xs) (n := n - 1) (fun x hx => by have := (h1 x hx).2; omega)
  omega
theorem Av.tail {n : Nat} {xs ys : List D} (h : Av (n + 1) (.tup (xs ++ ys))) : Av (n + 1) (.tup ys) := by
  have h2 : costA (xs ++ ys) + 3 ≤ 10000000 := h.cost
  rw [costA_app] at h2
  have h3 := h.ht
  rw [hT] at h3
  exact Av.tup (by omega) (fun x hx => ⟨(h.mem (List.mem_append_right _ hx)).plain, (h.mem (List.mem_append_right _ hx)).ht⟩) (by omega)
theorem comp_mapI {i : Nat} {te : TD} {δw : List Sl} (f : D → D) (xs acc : List D) (Q : List D → Prop)
    (h1 : ∀ x ∈ xs, ∀ (C : Sl → List Sl → Prop), (∀ r, fz r = some (f x) → C r (δw.set i (.dt x))) → te (δw.set i (.dt x)) C) (h2 : Q (acc ++ xs.map f)) : compD (gdName i) tdYes te δw xs acc Q := by
  have z := comp_map (i := i) (te := te) (δw := δw) (id : D → D) f xs acc Q h1 h2
  rw [List.map_id] at z
  exact z
/-! ### the words -/
inductive Kd where | mn (w : W3) | tm | ov | cs | rg (w : WR) | num | emp | inp | nm | oth
def kd (k : Str) : Kd :=
  if k = "sum" then .mn .sum else if k = "most" then .mn .most else if k = "least" then .mn .least else
  if k = "times" then .tm else if k = "over" then .ov else if k = "case" then .cs else
  if k = "total" then .rg .total else if k = "many" then .rg .many else if k = "top" then .rg .top else if k = "low" then .rg .low else
  if k = "number" then .num else if k = "empty" then .emp else if k = "input" then .inp else if k = "name" then .nm else .oth
structure Oth (k : Str) : Prop where
  w3 : ∀ w : W3, k ≠ w.s
  tm : k ≠ "times"
  ov : k ≠ "over"
  cs : k ≠ "case"
  wr : ∀ w : WR, k ≠ w.s
  num : k ≠ "number"
  emp : k ≠ "empty"
  inp : k ≠ "input"
  nm : k ≠ "name"
theorem kd_cases (k : Str) : (∃ w : W3, k = w.s) ∨ k = "times" ∨ k = "over" ∨ k = "case" ∨ (∃ w : WR, k = w.s) ∨ k = "number" ∨ k = "empty" ∨ k = "input" ∨ k = "name" ∨ Oth k := by
  by_cases h1 : ∃ w : W3, k = w.s
  · exact .inl h1
  by_cases h2 : k = "times"
  · exact .inr (.inl h2)
  by_cases h3 : k = "over"
  · exact .inr (.inr (.inl h3))
  by_cases h4 : k = "case"
  · exact .inr (.inr (.inr (.inl h4)))
  by_cases h5 : ∃ w : WR, k = w.s
  · exact .inr (.inr (.inr (.inr (.inl h5))))
  by_cases h6 : k = "number"
  · exact .inr (.inr (.inr (.inr (.inr (.inl h6)))))
  by_cases h7 : k = "empty"
  · exact .inr (.inr (.inr (.inr (.inr (.inr (.inl h7))))))
  by_cases h8 : k = "input"
  · exact .inr (.inr (.inr (.inr (.inr (.inr (.inr (.inl h8)))))))
  by_cases h9 : k = "name"
  · exact .inr (.inr (.inr (.inr (.inr (.inr (.inr (.inr (.inl h9))))))))
  · exact .inr (.inr (.inr (.inr (.inr (.inr (.inr (.inr (.inr ⟨fun w e => h1 ⟨w, e⟩, h2, h3, h4, fun w e => h5 ⟨w, e⟩, h6, h7, h8, h9⟩))))))))
theorem Oth.kd {k : Str} (o : Oth k) : DL.kd k = .oth := by
  unfold DL.kd
  rw [if_neg (show k ≠ ("sum" : Str) from o.w3 .sum), if_neg (show k ≠ ("most" : Str) from o.w3 .most), if_neg (show k ≠ ("least" : Str) from o.w3 .least), if_neg o.tm, if_neg o.ov, if_neg o.cs, if_neg (show k ≠ ("total" : Str) from o.wr .total), if_neg (show k ≠ ("many" : Str) from o.wr .many), if_neg (show k ≠ ("top" : Str) from o.wr .top), if_neg (show k ≠ ("low" : Str) from o.wr .low), if_neg o.num, if_neg o.emp, if_neg o.inp, if_neg o.nm]
def isSg (s : Str) : Bool := inV (.str s) [.str "=", .str "<>", .str "<", .str "<=", .str ">", .str ">="]
theorem isSg_ex {s : Str} (h : isSg s = true) : ∃ g : SG, s = g.s := by
  have h' : (eqV (.str "=") (.str s) || (eqV (.str "<>") (.str s) || (eqV (.str "<") (.str s) || (eqV (.str "<=") (.str s) || (eqV (.str ">") (.str s) || (eqV (.str ">=") (.str s) || false)))))) = true := h
  simp only [Bool.or_eq_true, Bool.or_false] at h'
  rcases h' with h | h | h | h | h | h
  · exact ⟨.eq, (of_decide_eq_true h).symm⟩
  · exact ⟨.ne, (of_decide_eq_true h).symm⟩
  · exact ⟨.lt, (of_decide_eq_true h).symm⟩
  · exact ⟨.le, (of_decide_eq_true h).symm⟩
  · exact ⟨.gt, (of_decide_eq_true h).symm⟩
  · exact ⟨.ge, (of_decide_eq_true h).symm⟩
theorem isSg_prog (s : Str) : inV (.str s) [.str "<", .str "<=", .str "<>", .str "=", .str ">", .str ">="] = isSg s := by
  show (eqV (.str "<") (.str s) || (eqV (.str "<=") (.str s) || (eqV (.str "<>") (.str s) || (eqV (.str "=") (.str s) || (eqV (.str ">") (.str s) || (eqV (.str ">=") (.str s) || false)))))) = (eqV (.str "=") (.str s) || (eqV (.str "<>") (.str s) || (eqV (.str "<") (.str s) || (eqV (.str "<=") (.str s) || (eqV (.str ">") (.str s) || (eqV (.str ">=") (.str s) || false))))))
  cases eqV (.str "<") (.str s) <;> cases eqV (.str "<=") (.str s) <;> cases eqV (.str "<>") (.str s) <;> cases eqV (.str "=") (.str s) <;> rfl
/-- what must be formulas within, if anything can -/
def inMn : List D → Option (List D)
  | [.tup zs] => some zs
  | _ => none
def inTm : List D → Option (List D)
  | [i, x] => if isNum i = true then some [x] else none
  | _ => none
def inOv : List D → Option (List D)
  | [a, b] => some [a, b]
  | _ => none
def inCs : List D → Option (List D)
  | [a, .str s, b, c, d] => if isSg s = true then some [a, b, c, d] else none
  | _ => none
def inRg : List D → Option (List D)
  | [x] => if isRange x = true then some [] else none
  | _ => none
def inNum : List D → Option (List D)
  | [x] => if isNum x = true then some [] else none
  | _ => none
def inOne : List D → Option (List D)
  | [] => some []
  | _ => none
def inNm (ys : List D) : Option (List D) := if isName (.tup (.str "name" :: ys)) = true then some [] else none
def innerO (k : Str) (ys : List D) : Option (List D) := match kd k with
  | .mn _ => inMn ys
  | .tm => inTm ys
  | .ov => inOv ys
  | .cs => inCs ys
  | .rg _ => inRg ys
  | .num => inNum ys
  | .emp => inOne ys
  | .inp => inOne ys
  | .nm => inNm ys
  | .oth => none
theorem innerO_ht {k : Str} {ys xs : List D} (h : innerO k ys = some xs) : ∀ x ∈ xs, hT x < hT (.tup (.str k :: ys)) := by
  unfold innerO at h
  intro x hx
  split at h
  · unfold inMn at h
    split at h
    · cases h
      have h1 := hT_tup hx
      have h2 := hT_tup (xs := [.str k, .tup xs]) (x := .tup xs) (by simp)
      omega
    · cases h
  · unfold inTm at h
    split at h
    · split at h
      · cases h; exact hT_tup (by rw [List.mem_singleton] at hx; subst hx; simp)
      · cases h
    · cases h
  · unfold inOv at h
    split at h
    · cases h; exact hT_tup (List.mem_cons_of_mem _ hx)
    · cases h
  · unfold inCs at h
    split at h
    · split at h
      · cases h
        refine hT_tup ?_
        simp only [List.mem_cons, List.not_mem_nil, or_false] at hx ⊢
        rcases hx with rfl | rfl | rfl | rfl <;> simp
      · cases h
    · cases h
  · unfold inRg at h
    split at h
    · split at h <;> cases h; cases hx
    · cases h
  · unfold inNum at h
    split at h
    · split at h <;> cases h; cases hx
    · cases h
  · unfold inOne at h; split at h <;> cases h; cases hx
  · unfold inOne at h; split at h <;> cases h; cases hx
  · unfold inNm at h; split at h <;> cases h; cases hx
  · cases h
/-- is it a formula -/
def fmN : Nat → D → Bool
  | 0, _ => false
  | n + 1, .tup (.str k :: ys) => match innerO k ys with
    | some xs => xs.all (fmN n)
    | none => false
  | _ + 1, _ => false
theorem all_eq {α : Type} {f g : α → Bool} : ∀ {xs : List α}, (∀ x ∈ xs, f x = g x) → xs.all f = xs.all g
  | [], _ => rfl
  | x :: xs, h => by rw [List.all_cons, List.all_cons, h x List.mem_cons_self, all_eq fun y hy => h y (List.mem_cons_of_mem _ hy)]
theorem fmN_stable : ∀ (n m : Nat) (d : D), hT d < n → hT d < m → fmN n d = fmN m d
  | 0, _, _, h, _ => absurd h (Nat.not_lt_zero _)
  | _ + 1, 0, _, _, h => absurd h (Nat.not_lt_zero _)
  | n + 1, m + 1, .tup (.str k :: ys), h1, h2 => by
    rw [fmN, fmN]
    cases e : innerO k ys with
    | none => rfl
    | some xs => exact all_eq fun x hx => fmN_stable n m x (by have := innerO_ht e x hx; omega) (by have := innerO_ht e x hx; omega)
  | n + 1, m + 1, .tup [], _, _ => rfl
  | n + 1, m + 1, .tup (.non :: _), _, _ => rfl
  | n + 1, m + 1, .tup (.bl _ :: _), _, _ => rfl
  | n + 1, m + 1, .tup (.int _ :: _), _, _ => rfl
  | n + 1, m + 1, .tup (.lst _ :: _), _, _ => rfl
  | n + 1, m + 1, .tup (.tup _ :: _), _, _ => rfl
  | n + 1, m + 1, .tup (.dK _ _ :: _), _, _ => rfl
  | n + 1, m + 1, .tup (.dT _ _ :: _), _, _ => rfl
  | n + 1, m + 1, .tup (.ins _ _ _ :: _), _, _ => rfl
  | n + 1, m + 1, .non, _, _ => rfl
  | n + 1, m + 1, .bl _, _, _ => rfl
  | n + 1, m + 1, .int _, _, _ => rfl
  | n + 1, m + 1, .str _, _, _ => rfl
  | n + 1, m + 1, .lst _, _, _ => rfl
  | n + 1, m + 1, .dK _ _, _, _ => rfl
  | n + 1, m + 1, .dT _ _, _, _ => rfl
  | n + 1, m + 1, .ins _ _ _, _, _ => rfl
def fmB (d : D) : Bool := fmN (hT d + 1) d
theorem fmB_tup {k : Str} {ys : List D} : fmB (.tup (.str k :: ys)) = match innerO k ys with | some xs => xs.all fmB | none => false := by
  show fmN (hT (.tup (.str k :: ys)) + 1) _ = _
  rw [fmN]
  cases e : innerO k ys with
  | none => rfl
  | some xs => exact all_eq fun x hx => fmN_stable _ _ x (innerO_ht e x hx) (Nat.lt_succ_self _)
def areF : D → Bool
  | .tup xs => xs.all fmB
  | _ => false
theorem fmB_none {k : Str} {ys : List D} (h : innerO k ys = none) : fmB (.tup (.str k :: ys)) = false := by rw [fmB_tup, h]
theorem inMn_no {ys : List D} (h : ys.length ≠ 1) : inMn ys = none := match ys, h with
  | [], _ => rfl
  | [_], h => absurd rfl h
  | .tup _ :: _ :: _, _ => rfl
  | .non :: _ :: _, _ => rfl
  | .bl _ :: _ :: _, _ => rfl
  | .int _ :: _ :: _, _ => rfl
  | .str _ :: _ :: _, _ => rfl
  | .lst _ :: _ :: _, _ => rfl
  | .dK _ _ :: _ :: _, _ => rfl
  | .dT _ _ :: _ :: _, _ => rfl
  | .ins _ _ _ :: _ :: _, _ => rfl
theorem inTm_no {ys : List D} (h : ys.length ≠ 2) : inTm ys = none := match ys, h with
  | [], _ => rfl
  | [_], _ => rfl
  | [_, _], h => absurd rfl h
  | _ :: _ :: _ :: _, _ => rfl
theorem inOv_no {ys : List D} (h : ys.length ≠ 2) : inOv ys = none := match ys, h with
  | [], _ => rfl
  | [_], _ => rfl
  | [_, _], h => absurd rfl h
  | _ :: _ :: _ :: _, _ => rfl
theorem inCs_no {ys : List D} (h : ys.length ≠ 5) : inCs ys = none := by
  unfold inCs
  split
  · exact absurd rfl h
  · rfl
theorem inRg_no {ys : List D} (h : ys.length ≠ 1) : inRg ys = none := match ys, h with
  | [], _ => rfl
  | [_], h => absurd rfl h
  | _ :: _ :: _, _ => rfl
theorem inNum_no {ys : List D} (h : ys.length ≠ 1) : inNum ys = none := match ys, h with
  | [], _ => rfl
  | [_], h => absurd rfl h
  | _ :: _ :: _, _ => rfl
theorem inOne_no {ys : List D} (h : ys.length ≠ 0) : inOne ys = none := match ys, h with
  | [], h => absurd rfl h
  | _ :: _, _ => rfl
theorem fmB_mn {w : W3} {x : D} : fmB (.tup [.str w.s, x]) = areF x := by
  rw [fmB_tup]
  have e : innerO w.s [x] = inMn [x] := by cases w <;> rfl
  rw [e]
  cases x <;> rfl
theorem fmB_rg {w : WR} {x : D} : fmB (.tup [.str w.s, x]) = isRange x := by
  rw [fmB_tup]
  have e : innerO w.s [x] = inRg [x] := by cases w <;> rfl
  rw [e]
  unfold inRg
  dsimp only
  cases isRange x <;> rfl
theorem fmB_num {x : D} : fmB (.tup [.str "number", x]) = isNum x := by
  rw [fmB_tup]
  have e : innerO "number" [x] = inNum [x] := rfl
  rw [e]
  unfold inNum
  dsimp only
  cases isNum x <;> rfl
theorem fmB_nm {ys : List D} : fmB (.tup (.str "name" :: ys)) = isName (.tup (.str "name" :: ys)) := by
  rw [fmB_tup]
  have e : innerO "name" ys = inNm ys := rfl
  rw [e]
  unfold inNm
  cases isName (.tup (.str "name" :: ys)) <;> rfl
theorem fmB_tm {a b : D} : fmB (.tup [.str "times", a, b]) = (isNum a && fmB b) := by
  rw [fmB_tup]
  have e : innerO "times" [a, b] = inTm [a, b] := rfl
  rw [e]
  unfold inTm
  dsimp only
  cases isNum a with
  | true => show (fmB b && true) = (true && fmB b); rw [Bool.and_true, Bool.true_and]
  | false => rfl
theorem fmB_ov {a b : D} : fmB (.tup [.str "over", a, b]) = areF (.tup [a, b]) := by
  rw [fmB_tup]
  rfl
theorem fmB_cs {a b c d : D} {s : Str} : fmB (.tup [.str "case", a, .str s, b, c, d]) = (isSg s && (fmB a && areF (.tup [b, c, d]))) := by
  rw [fmB_tup]
  have e : innerO "case" [a, .str s, b, c, d] = inCs [a, .str s, b, c, d] := rfl
  rw [e]
  unfold inCs
  dsimp only
  cases isSg s <;> rfl
theorem fmB_cs_no {a x b c d : D} (h : ∀ s, x ≠ .str s) : fmB (.tup [.str "case", a, x, b, c, d]) = false := by
  refine fmB_none (k := "case") ?_
  show inCs [a, x, b, c, d] = none
  cases x <;> first | rfl | exact absurd rfl (h _)
theorem eq_len {xs : List D} {n : Nat} (h : xs.length ≠ n) : PyData.eqv (.int (xs.length : Nat)) (.int (n : Nat)) = false := by
  have := ne_len h
  rwa [Bool.not_eq_true'] at this
/-! ### such data are formulas -/
theorem fm_list : ∀ {xs : List D}, (∀ x ∈ xs, ∃ f : Fm, f.d = x ∧ f.ok ∧ f.wf) → ∃ fs : List Fm, fdA fs = xs ∧ okA fs ∧ wfA fs
  | [], _ => ⟨[], by rw [fdA], by rw [okA]; trivial, by rw [wfA]; trivial⟩
  | x :: xs, h => by
    obtain ⟨f, e1, e2, e3⟩ := h x List.mem_cons_self
    obtain ⟨fs, g1, g2, g3⟩ := fm_list fun y hy => h y (List.mem_cons_of_mem _ hy)
    exact ⟨f :: fs, by rw [fdA, e1, g1], by rw [okA]; exact ⟨e2, g2⟩, by rw [wfA]; exact ⟨e3, g3⟩⟩
theorem isNum_ex {d : D} (h : isNum d = true) : ∃ i, d = .int i := by
  cases d <;> first | exact ⟨_, rfl⟩ | cases h
theorem fm_of : ∀ (n : Nat) (d : D), hT d < n → fmB d = true → ∃ f : Fm, f.d = d ∧ f.ok ∧ f.wf
  | 0, _, h, _ => absurd h (Nat.not_lt_zero _)
  | n + 1, d, hn, h => by
    cases d with
    | tup xs =>
      cases xs with
      | nil => cases h
      | cons x ys =>
        cases x with
        | str k =>
          rw [fmB_tup] at h
          cases e : innerO k ys with
          | none => rw [e] at h; cases h
          | some xs =>
            rw [e] at h
            have h2 : ∃ fs : List Fm, fdA fs = xs ∧ okA fs ∧ wfA fs := fm_list fun x hx => fm_of n x (by have := innerO_ht e x hx; omega) (List.all_eq_true.mp h x hx)
            obtain ⟨fs, f1, f2, f3⟩ := h2
            have key : ∀ (g : Hd), g.ok → g.fit fs → (Fm.node g fs).d = .tup (.str k :: ys) → ∃ f : Fm, f.d = .tup (.str k :: ys) ∧ f.ok ∧ f.wf := fun g a b c => ⟨.node g fs, c, by rw [Fm.ok]; exact ⟨a, f2⟩, by rw [Fm.wf]; exact ⟨b, f3⟩⟩
            rcases kd_cases k with ⟨w, rfl⟩ | rfl | rfl | rfl | ⟨w, rfl⟩ | rfl | rfl | rfl | rfl | o
            · have e' : inMn ys = some xs := by cases w <;> exact e
              unfold inMn at e'
              split at e'
              · cases e'
                exact key (.mn w) trivial trivial (by rw [Fm.d, f1]; rfl)
              · cases e'
            · have e' : inTm ys = some xs := e
              unfold inTm at e'
              split at e'
              · split at e'
                · rename_i i x hi
                  cases e'
                  obtain ⟨j, rfl⟩ := isNum_ex hi
                  have hl := congrArg List.length f1
                  rw [fdA_len] at hl
                  match fs, hl with
                  | [a], _ => exact key (.tm j) hi ⟨a, rfl⟩ (by rw [Fm.d, f1]; rfl)
                · cases e'
              · cases e'
            · have e' : inOv ys = some xs := e
              unfold inOv at e'
              split at e'
              · cases e'
                have hl := congrArg List.length f1
                rw [fdA_len] at hl
                match fs, hl with
                | [a, b], _ => exact key .ov trivial ⟨a, b, rfl⟩ (by rw [Fm.d, f1]; rfl)
              · cases e'
            · have e' : inCs ys = some xs := e
              unfold inCs at e'
              split at e'
              · split at e'
                · rename_i a s b c d hs
                  cases e'
                  obtain ⟨g, rfl⟩ := isSg_ex hs
                  have hl := congrArg List.length f1
                  rw [fdA_len] at hl
                  match fs, hl with
                  | [u, v, w, z], _ => exact key (.cs g) trivial ⟨u, v, w, z, rfl⟩ (by rw [Fm.d, f1]; rfl)
                · cases e'
              · cases e'
            · have e' : inRg ys = some xs := by cases w <;> exact e
              unfold inRg at e'
              split at e'
              · split at e'
                · rename_i x hr
                  have hx : ∃ c a b, x = .tup [.str "rows", c, a, b] ∧ isPart c = true ∧ isLim a = true ∧ isLim b = true := by
                    unfold isRange at hr
                    split at hr
                    · simp only [Bool.and_eq_true, decide_eq_true_eq] at hr
                      obtain ⟨rfl, h1, h2, h3⟩ := hr
                      exact ⟨_, _, _, rfl, h1, h2, h3⟩
                    · cases hr
                  obtain ⟨c, a, b, rfl, h1, h2, h3⟩ := hx
                  exact ⟨.rg w c a b, by rw [Fm.d], by rw [Fm.ok]; exact ⟨h1, h2, h3⟩, by rw [Fm.wf]; trivial⟩
                · cases e'
              · cases e'
            · have e' : inNum ys = some xs := e
              unfold inNum at e'
              split at e'
              · split at e'
                · rename_i x hi
                  obtain ⟨j, rfl⟩ := isNum_ex hi
                  exact ⟨.num j, by rw [Fm.d], by rw [Fm.ok]; exact hi, by rw [Fm.wf]; trivial⟩
                · cases e'
              · cases e'
            · have e' : inOne ys = some xs := e
              unfold inOne at e'
              split at e'
              · exact ⟨.emp, by rw [Fm.d], by rw [Fm.ok]; trivial, by rw [Fm.wf]; trivial⟩
              · cases e'
            · have e' : inOne ys = some xs := e
              unfold inOne at e'
              split at e'
              · exact ⟨.inp, by rw [Fm.d], by rw [Fm.ok]; trivial, by rw [Fm.wf]; trivial⟩
              · cases e'
            · have e' : inNm ys = some xs := e
              unfold inNm at e'
              split at e'
              · rename_i hi
                have hx : ∃ c r, ys = [c, r] ∧ isPart c = true ∧ isRow r = true := by
                  match ys, hi with
                  | [c, r], hi =>
                    have hi' : (decide (("name" : Str) = "name") && (isPart c && isRow r)) = true := hi
                    simp only [Bool.and_eq_true] at hi'
                    exact ⟨c, r, rfl, hi'.2.1, hi'.2.2⟩
                obtain ⟨c, r, rfl, h1, h2⟩ := hx
                exact ⟨.nm c r, by rw [Fm.d], by rw [Fm.ok]; exact ⟨h1, h2⟩, by rw [Fm.wf]; trivial⟩
              · cases e'
            · unfold innerO at e
              rw [o.kd] at e
              cases e
        | _ => cases h
    | _ => cases h
end DL

set_option Elab.async false
set_option linter.all false
set_option maxRecDepth 100000
set_option maxHeartbeats 4000000
/-! DM8: d[k]; a weaker promise; more plain facts of formulas: layable, sizes by the data, all inner ones. -/
namespace DL
open PySem PySem.Spec PyProof.Rows L2
theorem FnX.imp {P : Program} {w : World} {K : PySem.W.Frag} {mg : Str → Option Value} {base : Heap} {k n : Nat} {x : Str} {t t' : TF} (F : FnX P w K mg base k x n t) (m : MonoF t') (l : ∀ rs Q, t' rs Q → rs.length = n) (h : ∀ rs Q, t' rs Q → t rs Q) : FnX P w K mg base k x n t' := by
  obtain ⟨f, fd, ps, h1, h2, h3, h4⟩ := F.ex
  exact ⟨⟨f, fd, ps, h1.imp fun vs H Q E ⟨e, B, G, rs, a, b, c, d, q⟩ => ⟨e, B, G, rs, a, b, c, d, h _ _ q⟩, h2, h3, h4⟩, m, l⟩
/-! ### d[k] -/
def keyD : D → Option Key
  | .int i => some (.inl i)
  | .str s => some (.inr s)
  | _ => none
def lkK (k : Key) : List Key → List D → Option D
  | j :: ks, d :: ds => if j = k then some d else lkK k ks ds
  | _, _ => none
theorem lkK_ok {K : PySem.W.Frag} {G : Hp} {k : Key} : ∀ {ks : List Key} {xs : List V} {ds : List D} {d : D}, DdA K G xs ds → lkK k ks ds = some d → ∃ v, valV (ks.zip xs) k = some v ∧ Dd K G v d
  | [], xs, ds, d, h, e => by cases ds <;> cases e
  | j :: ks, xs, [], d, h, e => by cases e
  | j :: ks, xs, d0 :: ds, d, h, e => by
    cases h with
    | @cons v vs _ _ h1 h2 =>
      rw [lkK] at e
      by_cases c : j = k
      · rw [if_pos c] at e; cases e; exact ⟨v, valV_pos (p := (j, v)) c, h1⟩
      · rw [if_neg c] at e
        obtain ⟨v', e', h'⟩ := lkK_ok h2 e
        exact ⟨v', by rw [List.zip_cons_cons, valV_neg (p := (j, v)) c]; exact e', h'⟩
theorem keyD_ok {K : PySem.W.Frag} {G : Hp} {v : V} {d : D} {k : Key} (h : Dd K G v d) (e : keyD d = some k) : v = kV k := by
  cases h <;> cases e <;> rfl
def fDGet : FD2 := fun d e δ Q => match d, keyD e with
  | .dK ks vs, some k => match lkK k ks vs with
    | some v => Q (.dt v) δ
    | none => False
  | _, _ => False
theorem mono_fDGet : MonoF2 fDGet := fun d e δ Q Q' q w => by
  unfold fDGet at q ⊢
  split at q
  · split at q
    · exact w _ _ q
    · exact q
  · exact q
theorem opS_dget {K : PySem.W.Frag} : OpS K (fun x y H Q => ∃ a v, x = .ref a ∧ DGet H a y (some v) ∧ Q v H) fDGet := by
  intro B H0 G0 H σ δ G x y d e Q R hx hy q
  unfold fDGet at q
  split at q
  · rename_i ks vs k ek
    split at q
    · rename_i v ev
      cases hx with
      | @dK a _ xs _ h0 h1 h2 =>
        obtain ⟨u, eu, hu⟩ := lkK_ok h2 ev
        have e2 := keyD_ok hy ek
        subst e2
        exact ⟨a, u, rfl, by rw [← eu]; exact DGet.k (R.sub _ _ h1), aft_here R hu q⟩
    · exact q.elim
  · exact q.elim
theorem pd_dget {X : Cx} {a b : Expr} {pos : Pos} {ta tb : TD} (hu : X.A.units + 65 < cLine) (ha : PD X a ta) (hb : PD X b tb) (hs : NoSl b) : PD X (.Subscript a b pos) (td2 fDGet ta tb) :=
  pd_bin ha hb mono_fDGet opS_dget (pe_dget (by omega) ha.pe hb.pe hs)
/-! ### layable, not too deep -/
structure LD (h : Nat) (d : D) : Prop where
  lay : (py d).canLay0 = true
  dep : (py d).depth ≤ h
theorem LD.mono {m n : Nat} {d : D} (h : LD m d) (e : m ≤ n) : LD n d := ⟨h.lay, Nat.le_trans h.dep e⟩
theorem LD.shaped {n : Nat} {d : D} (h : LD n d) (e : n ≤ 64) : SeqAt.shaped (py d) = true := by
  unfold SeqAt.shaped
  rw [h.lay, decide_eq_true (Nat.le_trans h.dep e)]; rfl
theorem ldA {h : Nat} : ∀ {xs : List D}, (∀ x ∈ xs, LD h x) → PyData.canLayAll0 (pyA xs) = true ∧ PyData.depthAll (pyA xs) ≤ h
  | [], _ => ⟨rfl, Nat.zero_le _⟩
  | x :: xs, hx => by
    have a := hx x List.mem_cons_self
    obtain ⟨b1, b2⟩ := ldA fun y hy => hx y (List.mem_cons_of_mem _ hy)
    refine ⟨?_, ?_⟩
    · show ((py x).canLay0 && PyData.canLayAll0 (pyA xs)) = true
      rw [a.lay, b1]; rfl
    · show max (py x).depth (PyData.depthAll (pyA xs)) ≤ h
      exact Nat.max_le.mpr ⟨a.dep, b2⟩
theorem ld_tup {h : Nat} {xs : List D} (hx : ∀ x ∈ xs, LD h x) : LD (h + 1) (.tup xs) := by
  obtain ⟨a, b⟩ := ldA hx
  exact ⟨a, Nat.succ_le_succ b⟩
theorem ld_lst {h : Nat} {xs : List D} (hx : ∀ x ∈ xs, LD h x) : LD (h + 1) (.lst xs) := by
  obtain ⟨a, b⟩ := ldA hx
  exact ⟨a, Nat.succ_le_succ b⟩
theorem ld_int {i : Int} : LD 0 (.int i) := ⟨rfl, Nat.le_refl _⟩
theorem ld_non : LD 0 .non := ⟨rfl, Nat.le_refl _⟩
theorem ld_str {s : Str} (h : PyData.strOk s = true) : LD 0 (.str s) := ⟨h, Nat.le_refl _⟩
theorem all1 {P : D → Prop} {a : D} (h : P a) : ∀ x ∈ [a], P x := by intro x hx; rw [List.mem_singleton] at hx; rw [hx]; exact h
theorem allc {P : D → Prop} {a : D} {xs : List D} (h : P a) (k : ∀ x ∈ xs, P x) : ∀ x ∈ a :: xs, P x := by
  intro x hx
  rcases List.mem_cons.mp hx with rfl | hx
  · exact h
  · exact k x hx
theorem ld_part {c : D} (h : isPart c = true) : LD 1 c := by
  rcases part_cases h with rfl | ⟨i, rfl⟩ | ⟨i, rfl, _⟩
  · exact ld_tup (all1 (ld_str (by decide +kernel)))
  · exact ld_tup (allc (ld_str (by decide +kernel)) (all1 ld_int))
  · exact ld_tup (allc (ld_str (by decide +kernel)) (all1 ld_int))
theorem ld_row {c : D} (h : isRow c = true) : LD 1 c := by
  rcases row_cases h with ⟨w, rfl, e⟩ | ⟨w, i, rfl, e⟩
  · rcases in_two e with rfl | rfl
    · exact ld_tup (all1 (ld_str (by decide +kernel)))
    · exact ld_tup (all1 (ld_str (by decide +kernel)))
  · rcases e with rfl | ⟨rfl, _⟩
    · exact ld_tup (allc (ld_str (by decide +kernel)) (all1 ld_int))
    · exact ld_tup (allc (ld_str (by decide +kernel)) (all1 ld_int))
theorem ld_lim {c : D} (h : isLim c = true) : LD 0 c := by
  rcases lim_cases h with rfl | ⟨i, rfl⟩
  · exact ld_non
  · exact ld_int
theorem ld_hd {n : Nat} {g : Hd} {ds : List D} (h : ∀ x ∈ ds, LD n x) : LD (n + 2) (hdD g ds) := by
  cases g with
  | mn w => exact ld_tup (allc (LD.mono (ld_str (by cases w <;> decide +kernel)) (Nat.zero_le _)) (all1 (ld_tup h)))
  | tm i => exact (ld_tup (allc (LD.mono (ld_str (by decide +kernel)) (Nat.zero_le _)) (allc (LD.mono ld_int (Nat.zero_le _)) h))).mono (Nat.le_succ _)
  | ov => exact (ld_tup (allc (LD.mono (ld_str (by decide +kernel)) (Nat.zero_le _)) h)).mono (Nat.le_succ _)
  | cs s =>
    refine (ld_tup (allc (LD.mono (ld_str (by decide +kernel)) (Nat.zero_le _)) ?_)).mono (Nat.le_succ _)
    cases ds with
    | nil => intro x hx; cases hx
    | cons d ds =>
      exact allc (h d List.mem_cons_self) (allc (LD.mono (ld_str (by cases s <;> decide +kernel)) (Nat.zero_le _)) fun x hx => h x (List.mem_cons_of_mem _ hx))
mutual
theorem ld_fm : ∀ f : Fm, f.ok → LD (2 * f.hgt + 3) f.d
  | .num i, _ => by rw [Fm.d]; exact (ld_tup (allc (ld_str (by decide +kernel)) (all1 ld_int))).mono (by omega)
  | .emp, _ => by rw [Fm.d]; exact (ld_tup (all1 (ld_str (by decide +kernel)))).mono (by omega)
  | .inp, _ => by rw [Fm.d]; exact (ld_tup (all1 (ld_str (by decide +kernel)))).mono (by omega)
  | .nm c r, h => by
    rw [Fm.ok] at h
    rw [Fm.d]; exact (ld_tup (allc (LD.mono (ld_str (by decide +kernel)) (Nat.zero_le _)) (allc (ld_part h.1) (all1 (ld_row h.2))))).mono (by omega)
  | .rg w c a b, h => by
    rw [Fm.ok] at h
    rw [Fm.d]
    refine (ld_tup (allc (LD.mono (ld_str (by cases w <;> decide +kernel)) (Nat.zero_le _)) (all1 (ld_tup (h := 1) (allc (LD.mono (ld_str (by decide +kernel)) (Nat.zero_le _)) (allc (ld_part h.1) (allc ((ld_lim h.2.1).mono (Nat.zero_le _)) (all1 ((ld_lim h.2.2).mono (Nat.zero_le _)))))))))).mono (by omega)
  | .node g xs, h => by
    rw [Fm.ok] at h
    rw [Fm.d, Fm.hgt]
    exact (ld_hd (ld_fmA xs h.2)).mono (by omega)
theorem ld_fmA : ∀ xs : List Fm, okA xs → ∀ x ∈ fdA xs, LD (2 * hgtA xs + 3) x
  | [], _ => by intro x hx; rw [fdA] at hx; cases hx
  | f :: fs, h => by
    rw [okA] at h
    rw [fdA, hgtA]
    exact allc ((ld_fm f h.1).mono (by have := Nat.le_max_left f.hgt (hgtA fs); omega)) fun x hx => (ld_fmA fs h.2 x hx).mono (by have := Nat.le_max_right f.hgt (hgtA fs); omega)
end
/-! ### sizes by the data -/
mutual
theorem sz_cost : ∀ f : Fm, 34 * f.sz ≤ costD f.d
  | .num i => by rw [Fm.d, Fm.sz]; exact Nat.le_of_ble_eq_true rfl
  | .emp => by rw [Fm.d, Fm.sz]; exact Nat.le_of_ble_eq_true rfl
  | .inp => by rw [Fm.d, Fm.sz]; exact Nat.le_of_ble_eq_true rfl
  | .nm c r => by
    rw [Fm.d, Fm.sz]
    show _ ≤ costD (.str "name") + 2 + costA [c, r] + 3
    have e : costD (.str "name") = 42 := rfl
    omega
  | .rg w c a b => by
    rw [Fm.d, Fm.sz]
    show _ ≤ costD (.str w.s) + 2 + costA _ + 3
    have e : 32 ≤ costD (.str w.s) := by cases w <;> exact Nat.le_of_ble_eq_true rfl
    omega
  | .node g xs => by
    have h := sz_costA xs
    rw [Fm.d, Fm.sz]
    cases g with
    | mn w =>
      show _ ≤ costD (.str w.s) + 2 + (costD (.tup (fdA xs)) + 2 + 0) + 3
      have e : 32 ≤ costD (.str w.s) := by cases w <;> exact Nat.le_of_ble_eq_true rfl
      rw [show costD (.tup (fdA xs)) = costA (fdA xs) + 3 from rfl]
      omega
    | tm i =>
      show _ ≤ costD (.str "times") + 2 + (costD (.int i) + 2 + costA (fdA xs)) + 3
      have e : costD (.str "times") = 52 := rfl
      omega
    | ov =>
      show _ ≤ costD (.str "over") + 2 + costA (fdA xs) + 3
      have e : costD (.str "over") = 42 := rfl
      omega
    | cs s =>
      show _ ≤ costD (.str "case") + 2 + costA _ + 3
      have e : costD (.str "case") = 42 := rfl
      cases hx : fdA xs with
      | nil => rw [hx] at h; simp only [costA] at h ⊢; omega
      | cons d ds => rw [hx] at h; simp only [costA] at h ⊢; omega
theorem sz_costA : ∀ xs : List Fm, 34 * szA xs ≤ costA (fdA xs)
  | [] => by rw [szA, fdA]; exact Nat.zero_le _
  | f :: fs => by
    have h1 := sz_cost f
    have h2 := sz_costA fs
    rw [szA, fdA, costA]
    omega
end
theorem hTA_cons {x : D} {xs : List D} : hTA (x :: xs) = max (hT x) (hTA xs) := by rw [hTA]
mutual
theorem hgt_hT : ∀ f : Fm, f.wf → f.hgt + 1 ≤ hT f.d
  | .num i, _ => by rw [Fm.d, Fm.hgt, hT]; omega
  | .emp, _ => by rw [Fm.d, Fm.hgt, hT]; omega
  | .inp, _ => by rw [Fm.d, Fm.hgt, hT]; omega
  | .nm c r, _ => by rw [Fm.d, Fm.hgt, hT]; omega
  | .rg w c a b, _ => by rw [Fm.d, Fm.hgt, hT]; omega
  | .node g xs, h => by
    rw [Fm.wf] at h
    have h2 := hgtA_hT xs h.2
    rw [Fm.d, Fm.hgt]
    cases g with
    | mn w =>
      show _ ≤ hT (.tup [.str w.s, .tup (fdA xs)])
      rw [hT, hTA_cons, hTA_cons, hT.eq_1]
      have := Nat.le_max_left (hTA (fdA xs) + 1) (hTA [])
      have := Nat.le_max_right (hT (.str w.s)) (max (hTA (fdA xs) + 1) (hTA []))
      omega
    | tm i =>
      obtain ⟨⟨a, rfl⟩, _⟩ := h
      show _ ≤ hT (.tup (.str "times" :: .int i :: fdA [a]))
      rw [hT, hTA_cons, hTA_cons]
      have := h2.1 (by simp)
      have := Nat.le_max_right (hT (.int i)) (hTA (fdA [a]))
      have := Nat.le_max_right (hT (.str "times")) (max (hT (.int i)) (hTA (fdA [a])))
      omega
    | ov =>
      obtain ⟨⟨a, b, rfl⟩, _⟩ := h
      show _ ≤ hT (.tup (.str "over" :: fdA [a, b]))
      rw [hT, hTA_cons]
      have := h2.1 (by simp)
      have := Nat.le_max_right (hT (.str "over")) (hTA (fdA [a, b]))
      omega
    | cs s =>
      obtain ⟨⟨a, b, c, d, rfl⟩, _⟩ := h
      have := h2.1 (by simp)
      rw [show fdA [a, b, c, d] = [a.d, b.d, c.d, d.d] by simp only [fdA]] at *
      show _ ≤ hT (.tup [.str "case", a.d, .str s.s, b.d, c.d, d.d])
      rw [hT]
      simp only [hTA_cons] at *
      omega
theorem hgtA_hT : ∀ xs : List Fm, wfA xs → (xs ≠ [] → hgtA xs + 1 ≤ hTA (fdA xs)) ∧ hgtA xs ≤ hTA (fdA xs)
  | [], _ => ⟨fun h => absurd rfl h, by rw [hgtA]; exact Nat.zero_le _⟩
  | f :: fs, h => by
    rw [wfA] at h
    have h1 := hgt_hT f h.1
    have h2 := hgtA_hT fs h.2
    rw [hgtA, fdA, hTA_cons]
    have h3 := h2.2
    cases fs with
    | nil => rw [hgtA]; refine ⟨fun _ => ?_, ?_⟩ <;> omega
    | cons g gs =>
      have h4 := h2.1 (by simp)
      refine ⟨fun _ => ?_, ?_⟩ <;> omega
end
/-! ### what _law_inner tells of a formula -/
theorem innerO_fm : ∀ f : Fm, f.wf → f.ok → ∃ k ys, f.d = .tup (.str k :: ys) ∧ innerO k ys = some (f.parts.map Fm.d) ∧ ∀ zs, ys = [.tup zs] → zs.length ≤ f.parts.length + 4
  | .num i, _, h => by
    rw [Fm.ok] at h
    refine ⟨_, _, by rw [Fm.d], ?_, fun zs e => by cases e⟩
    show inNum [.int i] = some []
    unfold inNum
    dsimp only
    rw [if_pos h]
  | .emp, _, _ => ⟨_, _, by rw [Fm.d], rfl, fun zs e => by cases e⟩
  | .inp, _, _ => ⟨_, _, by rw [Fm.d], rfl, fun zs e => by cases e⟩
  | .nm c r, _, h => by
    rw [Fm.ok] at h
    refine ⟨_, _, by rw [Fm.d], ?_, fun zs e => by cases e⟩
    show inNm [c, r] = some []
    unfold inNm
    rw [if_pos]
    show (true && (isPart c && isRow r)) = true
    rw [h.1, h.2]; rfl
  | .rg w c a b, _, h => by
    rw [Fm.ok] at h
    refine ⟨_, _, by rw [Fm.d], ?_, fun zs e => by cases e; exact Nat.le_add_left _ _⟩
    have e : innerO w.s [.tup [.str "rows", c, a, b]] = inRg [.tup [.str "rows", c, a, b]] := by cases w <;> rfl
    rw [e]
    unfold inRg
    dsimp only
    rw [if_pos]
    · rfl
    · show (true && (isPart c && (isLim a && isLim b))) = true
      rw [h.1, h.2.1, h.2.2]; rfl
  | .node (.mn w) xs, _, h => by
    refine ⟨w.s, [.tup (fdA xs)], by rw [Fm.d]; rfl, ?_, fun zs e => by cases e; rw [fdA_len]; exact Nat.le_add_right _ _⟩
    show _ = some (xs.map Fm.d)
    rw [← fdA_map]
    cases w <;> rfl
  | .node (.tm i) xs, wf, h => by
    rw [Fm.wf] at wf
    rw [Fm.ok] at h
    obtain ⟨⟨a, rfl⟩, _⟩ := wf
    refine ⟨"times", [.int i, a.d], by rw [Fm.d]; simp only [fdA]; rfl, ?_, fun zs e => by cases e⟩
    show inTm [.int i, a.d] = some [a.d]
    unfold inTm
    dsimp only
    rw [if_pos (show isNum (.int i) = true from h.1)]
  | .node .ov xs, wf, h => by
    rw [Fm.wf] at wf
    obtain ⟨⟨a, b, rfl⟩, _⟩ := wf
    exact ⟨"over", [a.d, b.d], by rw [Fm.d]; simp only [fdA]; rfl, rfl, fun zs e => by have := congrArg List.length e; cases this⟩
  | .node (.cs s) xs, wf, h => by
    rw [Fm.wf] at wf
    obtain ⟨⟨a, b, c, d, rfl⟩, _⟩ := wf
    refine ⟨"case", [a.d, .str s.s, b.d, c.d, d.d], by rw [Fm.d]; simp only [fdA]; rfl, ?_, fun zs e => by have := congrArg List.length e; cases this⟩
    show inCs [a.d, .str s.s, b.d, c.d, d.d] = some [a.d, b.d, c.d, d.d]
    unfold inCs
    dsimp only
    rw [if_pos]
    cases s <;> rfl
/-! ### all inner ones -/
mutual
def Fm.alls : Fm → List Fm
  | .node g xs => .node g xs :: allsA xs
  | .num i => [.num i]
  | .emp => [.emp]
  | .inp => [.inp]
  | .nm c r => [.nm c r]
  | .rg w c a b => [.rg w c a b]
def allsA : List Fm → List Fm
  | [] => []
  | x :: xs => x.alls ++ allsA xs
end
theorem alls_eq (f : Fm) : f.alls = f :: allsA f.parts := by
  cases f <;> (rw [Fm.alls]; first | rfl | (rw [show ∀ g xs, (Fm.node g xs).parts = xs from fun _ _ => rfl]) | (show _ = _ :: allsA []; rw [allsA]))
mutual
theorem alls_sz : ∀ f : Fm, f.alls.length ≤ f.sz
  | .node g xs => by rw [Fm.alls, Fm.sz, List.length_cons]; have := allsA_sz xs; omega
  | .num i => by rw [Fm.alls, Fm.sz]; exact Nat.le_refl _
  | .emp => by rw [Fm.alls, Fm.sz]; exact Nat.le_refl _
  | .inp => by rw [Fm.alls, Fm.sz]; exact Nat.le_refl _
  | .nm c r => by rw [Fm.alls, Fm.sz]; exact Nat.le_refl _
  | .rg w c a b => by rw [Fm.alls, Fm.sz]; exact Nat.le_refl _
theorem allsA_sz : ∀ xs : List Fm, (allsA xs).length ≤ szA xs
  | [] => by rw [allsA]; exact Nat.zero_le _
  | f :: fs => by rw [allsA, szA, List.length_append]; have := alls_sz f; have := allsA_sz fs; omega
end
mutual
theorem alls_ld : ∀ f : Fm, f.ok → ∀ x ∈ f.alls, x.ok ∧ x.hgt ≤ f.hgt
  | .node g xs, h => by
    rw [Fm.alls]
    intro x hx
    rcases List.mem_cons.mp hx with rfl | hx
    · exact ⟨h, Nat.le_refl _⟩
    · rw [Fm.ok] at h
      have := allsA_ld xs h.2 x hx
      rw [Fm.hgt]
      exact ⟨this.1, by omega⟩
  | .num i, h => by rw [Fm.alls]; intro x hx; rw [List.mem_singleton] at hx; rw [hx]; exact ⟨h, Nat.le_refl _⟩
  | .emp, h => by rw [Fm.alls]; intro x hx; rw [List.mem_singleton] at hx; rw [hx]; exact ⟨h, Nat.le_refl _⟩
  | .inp, h => by rw [Fm.alls]; intro x hx; rw [List.mem_singleton] at hx; rw [hx]; exact ⟨h, Nat.le_refl _⟩
  | .nm c r, h => by rw [Fm.alls]; intro x hx; rw [List.mem_singleton] at hx; rw [hx]; exact ⟨h, Nat.le_refl _⟩
  | .rg w c a b, h => by rw [Fm.alls]; intro x hx; rw [List.mem_singleton] at hx; rw [hx]; exact ⟨h, Nat.le_refl _⟩
theorem allsA_ld : ∀ xs : List Fm, okA xs → ∀ x ∈ allsA xs, x.ok ∧ x.hgt ≤ hgtA xs
  | [], _ => by rw [allsA]; intro x hx; cases hx
  | f :: fs, h => by
    rw [okA] at h
    rw [allsA, hgtA]
    intro x hx
    rcases List.mem_append.mp hx with hx | hx
    · have := alls_ld f h.1 x hx; exact ⟨this.1, by have := this.2; omega⟩
    · have := allsA_ld fs h.2 x hx; exact ⟨this.1, by have := this.2; omega⟩
end
/-- its word -/
def Fm.word : Fm → Str
  | .num _ => "number"
  | .emp => "empty"
  | .inp => "input"
  | .nm _ _ => "name"
  | .rg w _ _ _ => w.s
  | .node (.mn w) _ => w.s
  | .node (.tm _) _ => "times"
  | .node .ov _ => "over"
  | .node (.cs _) _ => "case"
theorem fm_word (f : Fm) : ∃ ys, f.d = .tup (.str f.word :: ys) := by
  cases f with
  | node g xs => cases g <;> (rw [Fm.d]; exact ⟨_, rfl⟩)
  | _ => rw [Fm.d]; exact ⟨_, rfl⟩
def Fm.isInp : Fm → Bool
  | .inp => true
  | _ => false
theorem eqv_inp (f : Fm) : PyData.eqv (py f.d) (.tuple [.str "input"]) = f.isInp := by
  obtain ⟨ys, e⟩ := fm_word f
  have h2 : f.isInp = false → f.word ≠ "input" := by
    intro h
    cases f with
    | inp => cases h
    | node g xs => cases g with
      | mn w => exact (by cases w <;> decide : w.s ≠ "input")
      | tm i => exact (by decide : ("times" : Str) ≠ "input")
      | ov => exact (by decide : ("over" : Str) ≠ "input")
      | cs s => exact (by decide : ("case" : Str) ≠ "input")
    | rg w c a b => exact (by cases w <;> decide : w.s ≠ "input")
    | num i => exact (by decide : ("number" : Str) ≠ "input")
    | emp => exact (by decide : ("empty" : Str) ≠ "input")
    | nm c r => exact (by decide : ("name" : Str) ≠ "input")
  cases hi : f.isInp with
  | true => cases f with
    | inp => rw [Fm.d]; rfl
    | _ => cases hi
  | false =>
    rw [e]
    show (PyData.eqv (.str f.word) (.str "input") && PyData.eqvAll (pyA ys) []) = false
    have : PyData.eqv (.str f.word) (.str "input") = false := by
      show (f.word == ("input" : Str)) = false
      exact beq_eq_false_iff_ne.mpr (h2 hi)
    rw [this]; rfl
mutual
theorem inp_alls : ∀ f : Fm, f.alls.any Fm.isInp = f.hasInp
  | .node g xs => by rw [Fm.alls, Fm.hasInp, List.any_cons, inp_allsA xs]; rfl
  | .num i => by rw [Fm.alls, Fm.hasInp]; rfl
  | .emp => by rw [Fm.alls, Fm.hasInp]; rfl
  | .inp => by rw [Fm.alls, Fm.hasInp]; rfl
  | .nm c r => by rw [Fm.alls, Fm.hasInp]; rfl
  | .rg w c a b => by rw [Fm.alls, Fm.hasInp]; rfl
theorem inp_allsA : ∀ xs : List Fm, (allsA xs).any Fm.isInp = hasInpA xs
  | [] => by rw [allsA, hasInpA]; rfl
  | f :: fs => by rw [allsA, hasInpA, List.any_append, inp_alls f, inp_allsA fs]
end
def linW (f : Fm) : Bool := inV (.str f.word) [.str "number", .str "empty", .str "name", .str "sum", .str "times", .str "total"]
mutual
theorem lin_alls : ∀ f : Fm, f.alls.all linW = f.lin
  | .node g xs => by
    rw [Fm.alls, Fm.lin, List.all_cons, lin_allsA xs]
    cases g with
    | mn w => cases w <;> rfl
    | tm i => rfl
    | ov => rfl
    | cs s => rfl
  | .num i => by rw [Fm.alls, Fm.lin]; rfl
  | .emp => by rw [Fm.alls, Fm.lin]; rfl
  | .inp => by rw [Fm.alls, Fm.lin]; rfl
  | .nm c r => by rw [Fm.alls, Fm.lin]; rfl
  | .rg w c a b => by rw [Fm.alls, Fm.lin]; cases w <;> rfl
theorem lin_allsA : ∀ xs : List Fm, (allsA xs).all linW = linA xs
  | [] => by rw [allsA, linA]; rfl
  | f :: fs => by rw [allsA, linA, List.all_append, lin_alls f, lin_allsA fs]
end
theorem any_inp (xs : List Fm) : (pyA (xs.map Fm.d)).any (fun z => PyData.eqv z (.tuple [.str "input"])) = xs.any Fm.isInp := by
  rw [pyA_map, List.map_map, List.any_map]
  congr 1
  funext f
  exact eqv_inp f
end DL

set_option Elab.async false
set_option linter.all false
set_option maxRecDepth 100000
set_option maxHeartbeats 4000000
/-! DM9: own __len__, __getitem__, __eq__ (== and !=), isinstance of an own class. -/
namespace DL
open PySem PySem.Spec PyProof.Rows L2
section
variable {X : Cx} {k : Nat} {f : Addr} {fd : FuncData} {ps : List Str} {sp : Sp}
theorem run_fnA {A : Around} {pins : List (Addr × Obj)} {σ : L2.St} {H : Hp} {s : Shared} {Q : VK} {us : List Value} {vs : List V} (F : FnOk X.prog X.w X.K X.mg X.base CX0 k f fd ps sp) (hr : Room k A) (e0 : Env0 X.prog X.w X.K X.mg X.base A X.stack s H) (hb : Binds X.K fd ps [])
    (I : Inv X pins σ H s) (r : Vals vs us) (h : sp vs H Q E0) : wpAny (model X.prog X.w) A (call (.ref f) us) (EP X pins σ Q) X.xe s := by
  have hl : us.length = ps.length := by rw [← r.length]; exact F.len _ _ _ _ h
  have b := hb s us I.kIn (by rw [List.append_nil]; exact hl)
  rw [List.append_nil] at b
  refine wpAny_call (codeAny_mono (F.run A X.stack s H ⟨us, []⟩ us vs Q E0 hr e0 b r h) fun r s' hq => ?_)
  cases r with
  | error e => exact False.elim hq
  | ok fl =>
    cases fl with
    | ret u => exact I.after hq
    | next => exact False.elim hq
    | brk => exact False.elim hq
    | cont => exact False.elim hq
/-! ### len(o) -/
def rLenO (C : Addr) (sp : Sp) : List V → Hp → VK → Prop := fun xs H Q => ∃ a dx fs, xs = [V.ref a] ∧ H a = some (.ins C dx fs) ∧ sp [.ref a] H (fun z H' => ∃ n : Int, z = .int n ∧ 0 ≤ n ∧ n < 2 ^ 63 ∧ Q (.int n) H') E0
theorem call_lenO {C : Addr} (F : FnOk X.prog X.w X.K X.mg X.base CX0 k f fd ps sp) (hm : Meth X.K C "__len__" f) (hb : Binds X.K fd ps []) (hr : Room (k + 1) X.A) : CallR X (.builtin "len") (rLenO C sp) := by
  intro pins s σ H xs us Q I r h
  obtain ⟨a, dx, fs, rfl, ha, q⟩ := h
  obtain ⟨u, rfl, ru⟩ := r.one
  cases (show u = Value.ref a from ru)
  obtain ⟨mA, J, _⟩ := ins_get I.hok ha
  obtain ⟨od, J, _⟩ := J.look
  obtain ⟨m, hF⟩ := I.fr
  refine PySem.W.len_K hF I.ok.mod.kin J hm.at_ hm.fn (wpAny_mono (run_fnA (us := [.ref a]) (vs := [.ref a]) F hr.in1 I.env0.in1 hb I (.cons rfl .nil) q) (fun w s' z => ?_) fun _ _ x => x)
  obtain ⟨z', H', I', rz, n, en, h0, h1, qz⟩ := z
  subst en
  obtain ⟨t, e⟩ := (show ∃ t, w = Value.int n t from rz)
  cases e
  exact ⟨⟨h0, h1⟩, .int n, H', I'.tok _, ⟨_, rfl⟩, qz⟩
/-! ### == and != -/
def rEqO (C : Addr) (sp : Sp) : R2 := fun x y H Q => ∃ a b dx dy fs gs, x = .ref a ∧ y = .ref b ∧ H a = some (.ins C dx fs) ∧ H b = some (.ins C dy gs) ∧ sp [x, y] H (fun z H' => ∃ c, z = .bl c ∧ Q (.bl c) H') E0
def rNeO (C : Addr) (sp : Sp) : R2 := fun x y H Q => ∃ a b dx dy fs gs, x = .ref a ∧ y = .ref b ∧ H a = some (.ins C dx fs) ∧ H b = some (.ins C dy gs) ∧ sp [x, y] H (fun z H' => ∃ c, z = .bl c ∧ Q (.bl (!c)) H') E0
theorem op_eqO {C : Addr} (F : FnOk X.prog X.w X.K X.mg X.base CX0 k f fd ps sp) (hm : Meth X.K C "__eq__" f) (hb : Binds X.K fd ps []) (hr : Room k X.A) : OpR X (compareOp .Eq) (rEqO C sp) := by
  intro pins s σ H x y v u Q I rx ry h
  obtain ⟨a, b, dx, dy, fs, gs, rfl, rfl, ha, hb', q⟩ := h
  cases (show v = Value.ref a from rx)
  cases (show u = Value.ref b from ry)
  obtain ⟨mA, J, _⟩ := ins_get I.hok ha
  obtain ⟨mB, J', _⟩ := ins_get I.hok hb'
  obtain ⟨od, J, _⟩ := J.look
  obtain ⟨od', J', _⟩ := J'.look
  obtain ⟨m, hF⟩ := I.fr
  show wpAny (model X.prog X.w) X.A (richCompare .Eq (.ref a) (.ref b)) (EP X pins σ Q) X.xe s
  refine PySem.W.cmp_K (op := .Eq) (tb := .ref C) hr.units0 hF I.ok.mod.kin J J'.type (by simp [PySem.W.notFirst]) hm.at_ hm.fn ?_
  refine wpAny_mono (run_fnA (us := [.ref a, .ref b]) (vs := [.ref a, .ref b]) F hr I.env0 hb I (.cons rfl (.cons rfl .nil)) q) (fun w s' z => ?_) fun _ _ x => x
  obtain ⟨z', H', I', rz, c, ec, qz⟩ := z
  subst ec
  cases (show w = Value.bool c from rz)
  exact ⟨.bl c, H', I', rfl, qz⟩
theorem on_bind (self : Value) : bindSpecial (.builtin "object.__ne__") self = pure (.builtin "object.__ne__", [self]) := PySem.F.cmp_object.ne.bind self
theorem ne_KX {prog : Program} {w : World} {A : Around} {E : Value → Shared → Prop} {s : Shared} {K : PySem.W.Frag} {x C L f : Addr} {h₀ : Heap} {m : Str → Option Value} {ox : Obj} {od : Option Obj} {b tb : Value} {Q : Value → Shared → Prop} (hu : A.units + 1 < cLine) (F : Fr h₀ L s.heap m) (X₀ : K.In h₀) (I : PySem.W.InstAt s.heap x ox C od)
    (hb : PySem.W.Looks (model prog w) s.heap (typeOf b) tb) (hn : PySem.W.notFirst K C tb = true) (hs : PySem.W.findIn K (.ref C) "__eq__" = some (some (.ref f))) (hf : PySem.W.isFn K (.ref f) = true)
    (hne : PySem.W.findIn K (.ref C) "__ne__" = some (some (.builtin "object.__ne__"))) (hob : PySem.W.subIn K (.ref C) (.type "object") = some true)
    (h : wpAny (model prog w) A.in1 (call (.ref f) [.ref x, b]) (fun v s' => ∃ c, v = .bool c ∧ Q (.bool (!c)) s') E s) : wpAny (model prog w) A (richCompare .NotEq (.ref x) b) Q E s := by
  have X := X₀.keeps F.keep
  have ti : PySem.W.Looks (model prog w) s.heap (isInstance (.ref x) (.type "object")) true := I.type.andThen (PySem.W.looks_subIn X hob)
  have ent : wpAny (model prog w) A.in1 (Builtin.«object.__ne__» ⟨[.ref x, b], []⟩) (fun r s' => ∃ c, r = .done (.ret (.bool (!c))) ∧ Q (.bool (!c)) s') E s := by
    unfold Builtin.«object.__ne__»
    repeat (first
      | with_reducible refine wpAny_cRoomFor (show A.in1.units < cLine from hu) ?_
      | (refine wpAny_bind (m := callSpecialIfBound? (.ref x) (Str.ofString "__eq__") [b])
          (PySem.W.ifBound_K X I hs hf (wpAny_mono h (fun r s' hr => by
            obtain ⟨c, rfl, hq⟩ := hr
            repeat (first | exact ⟨c, rfl, hq⟩ | exact wpAny_pure ⟨c, rfl, hq⟩ | exact wpAny_truthy_bool ⟨c, rfl, hq⟩ | (refine wpAny_bind (m := truthy (.bool _)) (wpAny_truthy_bool ?_)) | wp_step)) fun _ _ e => e)))
      | wp_step)
  have one : wpAny (model prog w) A (tryCompare (.ref x) "__ne__" b) (fun r s' => ∃ v, r = some v ∧ Q v s') E s := by
    unfold tryCompare
    refine wpAny_bind ?_
    simp only [callSpecialIfBound?, bindSpecialIfBound?]
    refine wpAny_holding (wpAny_bind (wpAny_bind (wpAny_bind (I.type.here ((PySem.W.looks_findIn X hne).here ?_)))))
    simp only [on_bind]
    refine wpAny_bind (wpAny_askSetting (wpAny_ite ?_))
    have fin : ∀ {R : Option Value → Shared → Prop}, (∀ c s', Q (.bool (!c)) s' → R (some (.bool (!c))) s') → wpAny (model prog w) A (call (.builtin "object.__ne__") ([.ref x] ++ [b]) >>= fun v => pure (some v)) R E s := by
      intro R hR
      refine wpAny_bind (wpAny_call (codeAny_call_builtin PySem.F.cmp_object.ne.plain PySem.F.cmpEntry_ne (PySem.W.check_slot PySem.F.cmpKind_ne PySem.F.cmpSplit_ne ti (PySem.F.cmpArgs_ne _ _) (wpAny_mono ent (fun r s' hr => ?_) fun _ _ e => e))))
      obtain ⟨c, rfl, hq⟩ := hr
      exact wpAny_pure (hR c s' hq)
    split
    · exact wpAny_bind (wpAny_pure (wpAny_pure (fin fun c s' hq => wpAny_pure ⟨_, rfl, hq⟩)))
    · exact wpAny_tryCatch (wpAny_bind (wpAny_pure (wpAny_pure (fin fun c s' hq => wpAny_pure ⟨_, rfl, hq⟩))))
  unfold richCompare
  simp only [oneThing_ref]
  refine wpAny_holding (wpAny_bind (wpAny_cRoomFor (Nat.lt_of_succ_lt hu) ?_))
  rw [cmpInfo_NotEq]
  dsimp only
  refine wpAny_bind (I.type.here (wpAny_bind (hb.here ?_)))
  split
  · rename_i q
    have e : PySem.W.subIn K tb (.ref C) = some false := by
      rcases Bool.or_eq_true_iff.mp hn with e | e
      · rw [beq_iff_eq.mp e] at q; simp at q
      · exact beq_iff_eq.mp e
    refine wpAny_bind ((PySem.W.looks_subIn X e).here ?_)
    simp only [Bool.false_eq_true, if_false]
    refine wpAny_bind (wpAny_mono one (fun r s' z => ?_) fun _ _ e => e)
    obtain ⟨v, rfl, hq⟩ := z
    exact wpAny_pure hq
  · refine wpAny_bind (wpAny_pure ?_)
    simp only [Bool.false_eq_true, if_false]
    refine wpAny_bind (wpAny_mono one (fun r s' z => ?_) fun _ _ e => e)
    obtain ⟨v, rfl, hq⟩ := z
    exact wpAny_pure hq
structure NeOwn (K : PySem.W.Frag) (C : Addr) : Prop where
  ne : PySem.W.findIn K (.ref C) "__ne__" = some (some (.builtin "object.__ne__"))
  ob : PySem.W.subIn K (.ref C) (.type "object") = some true
theorem op_neO {C : Addr} (F : FnOk X.prog X.w X.K X.mg X.base CX0 k f fd ps sp) (hm : Meth X.K C "__eq__" f) (hb : Binds X.K fd ps []) (no : NeOwn X.K C) (hr : Room (k + 1) X.A) : OpR X (compareOp .NotEq) (rNeO C sp) := by
  intro pins s σ H x y v u Q I rx ry h
  obtain ⟨a, b, dx, dy, fs, gs, rfl, rfl, ha, hb', q⟩ := h
  cases (show v = Value.ref a from rx)
  cases (show u = Value.ref b from ry)
  obtain ⟨mA, J, _⟩ := ins_get I.hok ha
  obtain ⟨mB, J', _⟩ := ins_get I.hok hb'
  obtain ⟨od, J, _⟩ := J.look
  obtain ⟨od', J', _⟩ := J'.look
  obtain ⟨m, hF⟩ := I.fr
  have hu := hr.un
  show wpAny (model X.prog X.w) X.A (richCompare .NotEq (.ref a) (.ref b)) (EP X pins σ Q) X.xe s
  refine ne_KX (tb := .ref C) (by omega) hF I.ok.mod.kin J J'.type (by simp [PySem.W.notFirst]) hm.at_ hm.fn no.ne no.ob ?_
  refine wpAny_mono (run_fnA (us := [.ref a, .ref b]) (vs := [.ref a, .ref b]) F hr.in1 I.env0.in1 hb I (.cons rfl (.cons rfl .nil)) q) (fun w s' z => ?_) fun _ _ x => x
  obtain ⟨z', H', I', rz, c, ec, qz⟩ := z
  subst ec
  cases (show w = Value.bool c from rz)
  exact ⟨c, rfl, .bl (!c), H', I', rfl, qz⟩
/-! ### o[i] -/
def rIxO (C : Addr) (sp : Sp) : R2 := fun x y H Q => ∃ a dx fs, x = .ref a ∧ H a = some (.ins C dx fs) ∧ sp [x, y] H Q E0
theorem pe_ixO {C : Addr} {a b : Expr} {pos : Pos} {ta tb : TE} (F : FnOk X.prog X.w X.K X.mg X.base CX0 k f fd ps sp) (hm : Meth X.K C "__getitem__" f) (hfn : PySem.W.fnIn X.K f = true) (hb : Binds X.K fd ps []) (hr : Room (k + 1) X.A) (ha : PE X a ta) (hb2 : PE X b tb)
    (hsl : ∀ x i, subscripted b true (.ref x) i = runValue (.builtin "lifetime.subscript" ⟨[.ref x, i], []⟩) := by intro x i; with_unfolding_all rfl) : PE X (.Subscript a b pos) (tOp (rIxO C sp) ta tb) := by
  refine ⟨fun pins s σ H Q I h => ?_⟩
  refine Subscript_ (binT ha hb2 I h fun v u s2 x y H2 I2 rx ry q => ?_)
  obtain ⟨a', dx, fs, rfl, hh, q⟩ := q
  cases (show v = Value.ref a' from rx)
  obtain ⟨mA, J, _⟩ := ins_get I2.hok hh
  obtain ⟨od, J, _⟩ := J.look
  obtain ⟨m, hF⟩ := I2.fr
  exact PySem.W.sub_K hF I2.ok.mod.kin J hm.at_ hfn hm.fn (run_fnA (us := [.ref a', u]) (vs := [.ref a', y]) F hr.in1 I2.env0.in1 hb I2 (.cons rfl (.cons ry .nil)) q) (hsl _ _)
end
end DL

set_option Elab.async false
set_option linter.all false
set_option maxRecDepth 100000
set_option maxHeartbeats 4000000
/-! DMA: own __len__, __getitem__, __eq__, isinstance of an own class: over data. -/
namespace DL
open PySem PySem.Spec PyProof.Rows L2
section
variable {X : Cx} {k : Nat} {C : Addr} {t : TF} {a b e : Expr} {pos p p2 : Pos} {ta tb : TD} {u : TDA}
theorem ins_at {K : PySem.W.Frag} {B : Bg} {H0 G0 H : Hp} {σ : L2.St} {δ : List Sl} {G : Hp} (R : Rel K B H0 G0 H σ δ G) {v : V} {C : Addr} {ns : List Str} {ds : List D} (hd : Dd K G v (.ins C ns ds)) : ∃ a dx fs, v = .ref a ∧ H a = some (.ins C dx fs) := by
  cases hd with
  | ins h0 h1 h2 => exact ⟨_, _, _, rfl, R.sub _ _ h1⟩
/-- a promise asked at data -/
theorem sp_of {K : PySem.W.Frag} {B : Bg} {H0 G0 H : Hp} {σ : L2.St} {δ : List Sl} {G : Hp} (R : Rel K B H0 G0 H σ δ G) {n : Nat} {vs : List V} {rs : List Sl} (oks : ArgsOk K B G vs rs) (mt : MonoF t) (ln : ∀ rs Q, t rs Q → rs.length = n) {Q : VK} {q0 : Sl → Prop} (q : t rs q0)
    (w : ∀ r, q0 r → ∀ v H' G', Rel K B H0 G0 H' σ δ G' → Same G G' → Fra B H H' → ResOk K B H0 H' σ δ G' v r → Q v H') : spD K n t vs H Q E0 := by
  refine ⟨oks.len.trans (ln _ _ q), B, G, rs, R.sub, R.bag, R.sz, oks, mt _ _ _ q fun r q v H' G' kk => ?_⟩
  obtain ⟨R2, ok⟩ := R.call kk
  exact w r q v H' G' R2 kk.gg kk.fra ok
/-! ### len(o) -/
def gLenO (C : Addr) (t : TF) : D → List Sl → QD → Prop := fun d δ Q => match d with
  | .ins C' ns ds => C' = C ∧ t [.dt (.ins C' ns ds)] (fun r => ∃ n : Int, r = .dt (.int n) ∧ 0 ≤ n ∧ n < 2 ^ 63 ∧ Q (.dt (.int n)) δ)
  | _ => False
theorem pd_lenO (M : MthX X.prog X.w X.K X.mg X.base k C "__len__" 1 t) (hr : Room (k + 1) X.A) (hg : Gl X "len") (hm : X.mg "len" = none) (h : PDA X [e] u) (he : starEach [e] X.env = (false, eval e X.env) :: starEach [] X.env := by rfl) (hpl : (backTo pos (starEach [] X.env)).any (·.1) = false := by rfl) :
    PD X (.Call (.Name "len" p) [e] [] pos) (tdCB (f1 (gLenO C t)) u) := by
  obtain ⟨f, fd, ps, F, hc, hmt, hb⟩ := M.ex
  refine pd_callB (call_lenO F hmt hb hr) (mono_f1 fun d δ Q Q' q w => ?_) (callS_1 fun B H0 G0 H σ δ G v d Q R hd q => ?_) hg hm PySem.boot_len h (by decide) (by decide) he hpl
  · cases d <;> first | exact q | skip
    exact ⟨q.1, M.mono _ _ _ q.2 fun r ⟨n, a, b, c, z⟩ => ⟨n, a, b, c, w _ _ z⟩⟩
  · cases d <;> first | exact q.elim | skip
    obtain ⟨rfl, q⟩ := q
    obtain ⟨a, dx, fs, rfl, ha⟩ := ins_at R hd
    refine ⟨a, dx, fs, rfl, ha, sp_of R (vs := [.ref a]) (rs := [.dt _]) ⟨hd, trivial⟩ M.mono M.len q fun r ⟨n, er, h0, h1, z⟩ v H' G' R' s' f' ok => ?_⟩
    subst er
    cases ok.1
    exact ⟨n, rfl, h0, h1, z _ _ _ R' s' f' ok⟩
/-! ### == and != -/
def fEqO (C : Addr) (t : TF) (neg : Bool) : FD2 := fun d e δ Q => match d, e with
  | .ins C1 n1 d1, .ins C2 n2 d2 => C1 = C ∧ C2 = C ∧ t [.dt (.ins C1 n1 d1), .dt (.ins C2 n2 d2)] (fun r => ∃ c, r = .dt (.bl c) ∧ Q (.dt (.bl (if neg then !c else c))) δ)
  | _, _ => False
theorem mono_fEqO {neg : Bool} (mt : MonoF t) : MonoF2 (fEqO C t neg) := fun d e δ Q Q' q w => by
  unfold fEqO at q ⊢
  split at q
  · exact ⟨q.1, q.2.1, mt _ _ _ q.2.2 fun r ⟨c, a, z⟩ => ⟨c, a, w _ _ z⟩⟩
  · exact q
theorem opS_eqO (mt : MonoF t) (ln : ∀ rs Q, t rs Q → rs.length = 2) {K : PySem.W.Frag} : OpS K (rEqO C (spD K 2 t)) (fEqO C t false) := by
  intro B H0 G0 H σ δ G x y d e Q R hx hy q
  unfold fEqO at q
  split at q
  · obtain ⟨rfl, rfl, q⟩ := q
    obtain ⟨a, dx, fs, rfl, ha⟩ := ins_at R hx
    obtain ⟨b, dy, gs, rfl, hb⟩ := ins_at R hy
    refine ⟨a, b, dx, dy, fs, gs, rfl, rfl, ha, hb, sp_of R (vs := [.ref a, .ref b]) (rs := [.dt _, .dt _]) ⟨hx, hy, trivial⟩ mt ln q fun r ⟨c, er, z⟩ v H' G' R' s' f' ok => ?_⟩
    subst er
    cases ok.1
    exact ⟨c, rfl, z _ _ _ R' s' f' ok⟩
  · exact q.elim
theorem opS_neO (mt : MonoF t) (ln : ∀ rs Q, t rs Q → rs.length = 2) {K : PySem.W.Frag} : OpS K (rNeO C (spD K 2 t)) (fEqO C t true) := by
  intro B H0 G0 H σ δ G x y d e Q R hx hy q
  unfold fEqO at q
  split at q
  · obtain ⟨rfl, rfl, q⟩ := q
    obtain ⟨a, dx, fs, rfl, ha⟩ := ins_at R hx
    obtain ⟨b, dy, gs, rfl, hb⟩ := ins_at R hy
    refine ⟨a, b, dx, dy, fs, gs, rfl, rfl, ha, hb, sp_of R (vs := [.ref a, .ref b]) (rs := [.dt _, .dt _]) ⟨hx, hy, trivial⟩ mt ln q fun r ⟨c, er, z⟩ v H' G' R' s' f' ok => ?_⟩
    subst er
    cases ok.1
    exact ⟨c, rfl, z _ _ _ R' s' f' (resOk_dt (.bl _))⟩
  · exact q.elim
theorem pd_eqO (M : MthX X.prog X.w X.K X.mg X.base k C "__eq__" 2 t) (hr : Room k X.A) (ha : PD X a ta) (hb : PD X b tb) (hm : behindInMarks .Eq b = false := nomark _) : PD X (.Compare a [.Eq] [b] pos) (td2 (fEqO C t false) ta tb) := by
  obtain ⟨f, fd, ps, F, hc, hmt, hbb⟩ := M.ex
  exact pd_cmp (op_eqO F hmt hbb hr) (mono_fEqO M.mono) (opS_eqO M.mono M.len) ha hb hm
theorem pdt_eqO (M : MthX X.prog X.w X.K X.mg X.base k C "__eq__" 2 t) (hr : Room k X.A) (ha : PD X a ta) (hb : PD X b tb) (hm : behindInMarks .Eq b = false := nomark _) : PDT X (.Compare a [.Eq] [b] pos) (tdBool (td2 (fEqO C t false) ta tb)) := by
  obtain ⟨f, fd, ps, F, hc, hmt, hbb⟩ := M.ex
  exact pdt_of (op_eqO F hmt hbb hr) (mono_fEqO M.mono) (opS_eqO M.mono M.len) ha hb hm
theorem pd_neO (M : MthX X.prog X.w X.K X.mg X.base k C "__eq__" 2 t) (no : NeOwn X.K C) (hr : Room (k + 1) X.A) (ha : PD X a ta) (hb : PD X b tb) (hm : behindInMarks .NotEq b = false := nomark _) : PD X (.Compare a [.NotEq] [b] pos) (td2 (fEqO C t true) ta tb) := by
  obtain ⟨f, fd, ps, F, hc, hmt, hbb⟩ := M.ex
  exact pd_cmp (op_neO F hmt hbb no hr) (mono_fEqO M.mono) (opS_neO M.mono M.len) ha hb hm
theorem pdt_neO (M : MthX X.prog X.w X.K X.mg X.base k C "__eq__" 2 t) (no : NeOwn X.K C) (hr : Room (k + 1) X.A) (ha : PD X a ta) (hb : PD X b tb) (hm : behindInMarks .NotEq b = false := nomark _) : PDT X (.Compare a [.NotEq] [b] pos) (tdBool (td2 (fEqO C t true) ta tb)) := by
  obtain ⟨f, fd, ps, F, hc, hmt, hbb⟩ := M.ex
  exact pdt_of (op_neO F hmt hbb no hr) (mono_fEqO M.mono) (opS_neO M.mono M.len) ha hb hm
/-! ### o[i] -/
def fIxO (C : Addr) (t : TF) : FD2 := fun d e δ Q => match d with
  | .ins C1 n1 d1 => C1 = C ∧ t [.dt (.ins C1 n1 d1), .dt e] (fun r => Q r δ)
  | _ => False
theorem mono_fIxO (mt : MonoF t) : MonoF2 (fIxO C t) := fun d e δ Q Q' q w => by
  unfold fIxO at q ⊢
  split at q
  · exact ⟨q.1, mt _ _ _ q.2 fun r z => w _ _ z⟩
  · exact q
theorem opS_ixO (mt : MonoF t) (ln : ∀ rs Q, t rs Q → rs.length = 2) {K : PySem.W.Frag} : OpS K (rIxO C (spD K 2 t)) (fIxO C t) := by
  intro B H0 G0 H σ δ G x y d e Q R hx hy q
  unfold fIxO at q
  split at q
  · obtain ⟨rfl, q⟩ := q
    obtain ⟨a, dx, fs, rfl, ha⟩ := ins_at R hx
    exact ⟨a, dx, fs, rfl, ha, sp_of R (vs := [.ref a, y]) (rs := [.dt _, .dt _]) ⟨hx, hy, trivial⟩ mt ln q fun r z v H' G' R' s' f' ok => z _ _ _ R' s' f' ok⟩
  · exact q.elim
theorem pd_ixO (M : MthX X.prog X.w X.K X.mg X.base k C "__getitem__" 2 t) (hfn : ∀ f, Meth X.K C "__getitem__" f → PySem.W.fnIn X.K f = true) (hr : Room (k + 1) X.A) (ha : PD X a ta) (hb : PD X b tb)
    (hsl : ∀ x i, subscripted b true (.ref x) i = runValue (.builtin "lifetime.subscript" ⟨[.ref x, i], []⟩) := by intro x i; with_unfolding_all rfl) : PD X (.Subscript a b pos) (td2 (fIxO C t) ta tb) := by
  obtain ⟨f, fd, ps, F, hc, hmt, hbb⟩ := M.ex
  exact pd_bin ha hb (mono_fIxO M.mono) (opS_ixO M.mono M.len) (pe_ixO F hmt (hfn f hmt) hbb hr ha.pe hb.pe hsl)
/-! ### isinstance(x, C), x an instance -/
structure IsC (K : PySem.W.Frag) (C : Addr) : Prop where
  cl : Cls K C
  ha : PySem.W.findIn K (.ref C) "__class__" = some (some (.builtin "object.__class__"))
  hn : PySem.W.specialIn K (.builtin "object.__class__") "__get__" = some (some (.builtin "getset_descriptor.__get__"))
  htk : PySem.W.takesIn K (.builtin "object.__class__") = some true
  hm : PySem.W.mroIn K C (.type "object") = some true
def tdIsO (C : Addr) (ta : TD) : TD := fun δ Q => ta δ fun r δ' => match fz r with
  | some (.ins C' _ _) => C' = C ∧ Q (.dt (.bl true)) δ'
  | _ => False
theorem pd_isO {x : Str} (ic : IsC X.K C) (hg : Gl X "isinstance") (hm : X.mg "isinstance" = none) (hgx : Gl X x) (hmx : X.mg x = some (.ref C)) (h : PD X e ta) (hdx : (x == ("__debug__" : Str)) = false := by decide)
    (hs1 : starEach [.Name x p2] X.env = (false, eval (.Name x p2) X.env) :: starEach [] X.env := by rfl) (he : starEach [e, .Name x p2] X.env = (false, eval e X.env) :: starEach [.Name x p2] X.env := by rfl) (hpl : (backTo pos (starEach [.Name x p2] X.env)).any (·.1) = false := by rfl) :
    PD X (.Call (.Name "isinstance" p) [e, .Name x p2] [] pos) (tdIsO C ta) := by
  have rule := pe_callB (X := X) (p := p) (pos := pos) call_isi hg hm boot_isi' (pa_cons h.pe (pa_cons (pe_glob (pos := p2) (v := .ref C) hgx hmx rfl hdx) pa_nil hs1) he) (by decide) (by decide) he hpl
  refine ⟨PE.weak rule fun σ H Q ⟨B, H0, G0, δ, G, R, q⟩ => ?_, fun δ Q Q' q w => h.mono _ _ _ q fun r δ' q => ?_⟩
  · refine ⟨B, H0, G0, δ, G, R, h.mono _ _ _ q fun r δ1 q2 v H1 G1 R1 s1 f1 ok => ?_⟩
    split at q2
    · rename_i C' ns ds e1
      obtain ⟨ec, q3⟩ := q2
      subst ec
      obtain ⟨G2, R2, s2, hd⟩ := freeze R1 ok e1
      obtain ⟨a, dx, fs, rfl, ha⟩ := ins_at R2 hd
      exact ⟨.ref a, .ref C', .ref C', .ref C', true, rfl, .own _, .base (.ins ha ic.cl ic.ha ic.hn ic.htk ic.hm), by simp [PySem.W.kitOne], aft_here R2 (.bl _) (aftUp q3 (s1.trans s2) f1)⟩
    · exact q2.elim
  · split at q
    · exact ⟨q.1, w _ _ q.2⟩
    · exact q
end
end DL

set_option Elab.async false
set_option linter.all false
set_option maxRecDepth 100000
set_option maxHeartbeats 4000000
/-! DMB: owned dicts written; sorted(d); l.index(x); a[i], a[j] = x, y; a dict of a dict's items. -/
namespace DL
open PySem PySem.Spec PyProof.Rows L2
/-! ### d[k] = e, a new key -/
theorem Rel.oK {K : PySem.W.Frag} {B : Bg} {H0 G0 H : Hp} {σ : L2.St} {δ : List Sl} {G : Hp} (R : Rel K B H0 G0 H σ δ G) {i : Nat} {ks : List Key} {ds : List D} (e : δ[i]? = some (.oK ks ds)) : ∃ a xs, σ[i]? = some (some (.ref a)) ∧ Own σ δ i a ∧ ks.length = xs.length ∧ H a = some (.dK (ks.zip xs)) ∧ DdA K G xs ds := by
  rcases R.sl i _ e with z | ⟨v, ev, a, rfl, ga, xs, h0, h1, h2⟩
  · cases z
  · exact ⟨a, xs, ev, ⟨ev, _, e, rfl⟩, h0, h1, h2⟩
theorem valV_zip_none {k : Key} : ∀ {ks : List Key} {xs : List V}, k ∉ ks → valV (ks.zip xs) k = none
  | [], _, _ => rfl
  | j :: ks, [], _ => rfl
  | j :: ks, x :: xs, h => by
    rw [List.zip_cons_cons, valV_neg (p := (j, x)) (fun e => h (by rw [← e]; exact List.mem_cons_self))]
    exact valV_zip_none fun hm => h (List.mem_cons_of_mem _ hm)
def dputK (i : Nat) (ti : TD) (nx : List Sl → Prop) (d : D) (δ1 : List Sl) : Prop := match δ1[i]? with
  | some (.oK _ _) => ti δ1 fun r2 δ2 => match r2, δ2[i]? with
    | .dt (.int k), some (.oK ks ds) => Sum.inl k ∉ ks ∧ ks.length < sizeLine ∧ nx (δ2.set i (.oK (ks ++ [Sum.inl k]) (ds ++ [d])))
    | _, _ => False
  | _ => False
def tdDPut (i : Nat) (ti te : TD) : TDS := fun D δ => te δ fun r δ1 => match fz r with
  | some d => dputK i ti D.nx d δ1
  | none => False
theorem pds_dput {X : Cx} {o j e : Expr} {pos p1 : Pos} {ti te : TD} {i : Nat} (hu : X.A.units + 65 < cLine) (ho : PE X o (tVar i)) (hj : PD X j ti) (he : PD X e te) (hs : swapsWith e (some (.Subscript o j p1)) pos.line X.env = pure false := by rfl) : PDS X (.Assign [.Subscript o j p1] e pos) (tdDPut i ti te) := by
  refine ⟨PS.weak (ps_dput (by omega) ho hj.pe he.pe hs) fun D σ H ⟨B, H0, G0, δ, G, R, q⟩ => ?_, fun D D' δ w q => he.mono _ _ _ q fun r δ1 q => ?_⟩
  · refine ev_data he.mono (kk := dputK i ti (endsOf X B H0 G0 D).nx) R q fun d δ1 v H1 G1 R1 s1 f1 hd hq => ?_
    unfold dputK at hq
    split at hq
    · rename_i ks0 ds0 e1
      obtain ⟨a, xs, ev, oa, hl, ha, hA⟩ := R1.oK e1
      refine ⟨_, ev, B, H0, G0, δ1, G1, R1, hj.mono _ _ _ hq fun r2 δ2 q2 y H2 G2 R2 s2 f2 ok => ?_⟩
      split at q2
      · rename_i k ks ds e2
        obtain ⟨hk, hz, qn⟩ := q2
        cases ok.1
        obtain ⟨a2, xs2, ev2, oa2, hl2, ha2, hA2⟩ := R2.oK e2
        rw [ev] at ev2; cases ev2
        have zz : (ks.zip xs2).length < sizeLine := by rw [List.length_zip, hl2, Nat.min_self, ← hl2]; exact hz
        refine ⟨a, _, rfl, DPut.k (k := Sum.inl k) (v := v) ha2 zz, ?_⟩
        have ez : L2.putK (ks.zip xs2) (Sum.inl k) v = (ks ++ [Sum.inl k]).zip (xs2 ++ [v]) := by
          rw [putK_new v (valV_zip_none hk), List.zip_append hl2]; rfl
        rw [ez]
        refine qn σ _ G2 (R2.write oa2 (o := .dK _) ?_ rfl ⟨xs2 ++ [v], by rw [List.length_append, List.length_append, hl2]; rfl, upd_same, hA2.append (.one (Dd.mono s2 _ _ hd))⟩)
        show ((ks ++ [Sum.inl k]).zip (xs2 ++ [v])).length ≤ sizeLine
        rw [← ez, putK_new v (valV_zip_none hk), List.length_append]
        show _ + 1 ≤ _
        omega
      · exact q2.elim
    · exact hq.elim
  · cases e1 : fz r with
    | none => rw [e1] at q; exact q
    | some d =>
      rw [e1] at q
      dsimp only at q ⊢
      unfold dputK at q ⊢
      split at q
      · refine hj.mono _ _ _ q fun r2 δ2 q2 => ?_
        split at q2
        · exact ⟨q2.1, q2.2.1, w.nx _ q2.2.2⟩
        · exact q2
      · exact q
/-! ### sorted(d), the keys whole numbers -/
def intKs : List Key → Option (List Int)
  | [] => some []
  | .inl i :: ks => (intKs ks).map (i :: ·)
  | .inr _ :: _ => none
theorem intKs_ok : ∀ {ks : List Key} {ns : List Int}, intKs ks = some ns → ks = ns.map Sum.inl
  | [], ns, h => by cases h; rfl
  | .inl i :: ks, ns, h => by
    rw [intKs, Option.map_eq_some_iff] at h
    obtain ⟨ms, h1, rfl⟩ := h
    rw [intKs_ok h1]; rfl
  | .inr _ :: _, _, h => by cases h
theorem intKs_map : ∀ ns : List Int, intKs (ns.map Sum.inl) = some ns
  | [] => rfl
  | i :: ns => by rw [List.map_cons, intKs, intKs_map ns]; rfl
def gSortD : D → List Sl → QD → Prop := fun d δ Q => match d with
  | .dK ks _ => match intKs ks with
    | some ns => ns.length < 64 ∧ ∀ ys : List Int, ys.Perm ns → ys.Pairwise (· ≤ ·) → Q (.ol (ys.map D.int)) δ
    | none => False
  | _ => False
theorem DdA.ints {K : PySem.W.Frag} {G : Hp} : ∀ ys : List Int, DdA K G (ys.map V.int) (ys.map D.int)
  | [] => .nil
  | y :: ys => .cons (.int y) (DdA.ints ys)
theorem pd_sortedD {X : Cx} {e : Expr} {u : TDA} {p pos : Pos} (hc : X.calm = true) (hg : Gl X "sorted") (hm : X.mg "sorted" = none) (h : PDA X [e] u) (he : starEach [e] X.env = (false, eval e X.env) :: starEach [] X.env := by rfl) (hpl : (backTo pos (starEach [] X.env)).any (·.1) = false := by rfl) :
    PD X (.Call (.Name "sorted" p) [e] [] pos) (tdCB (f1 gSortD) u) := by
  refine pd_callB (call_sortedDI hc) (mono_f1 fun d δ Q Q' q w => ?_) (callS_1 fun B H0 G0 H σ δ G v d Q R hd q => ?_) hg hm (by decide +kernel) h (by decide) (by decide) he hpl
  · cases d <;> first | exact q | skip
    rename_i ks vs
    unfold gSortD at q ⊢
    dsimp only at q ⊢
    cases e1 : intKs ks with
    | none => rw [e1] at q; exact q
    | some ns => rw [e1] at q; exact ⟨q.1, fun ys h1 h2 => w _ _ (q.2 ys h1 h2)⟩
  · cases d <;> first | exact q.elim | skip
    rename_i ks vs
    unfold gSortD at q
    dsimp only at q
    cases e1 : intKs ks with
    | none => rw [e1] at q; exact q.elim
    | some ns =>
      rw [e1] at q
      cases hd with
      | @dK a _ xs _ h0 h1 h2 =>
        refine ⟨a, ks.zip xs, ns, rfl, .inl (R.sub _ _ h1), ?_, q.1, fun ys pp h3 h4 hp => ?_⟩
        · rw [List.map_fst_zip (Nat.le_of_eq h0)]; exact intKs_ok e1
        · have hl := h3.length_eq
          exact aft_own (s := .ol (ys.map D.int)) R hp (show (ys.map V.int).length ≤ sizeLine by rw [List.length_map, sizeLine_eq]; have := q.1; omega) rfl ⟨_, upd_same, DdA.ints ys⟩ (q.2 ys h3 h4)
/-! ### l.index(x) -/
def fIndex : FD2 := fun d e δ Q => match d with
  | .lst xs => SeqAt.shaped (py (.lst xs)) = true ∧ SeqAt.shaped (py e) = true ∧ ∃ (j : Nat) (z : PyData), (pyA xs)[j]? = some z ∧ PyData.eqv z (py e) = true ∧ (∀ (m : Nat) (z' : PyData), m < j → (pyA xs)[m]? = some z' → PyData.eqv z' (py e) = false) ∧ Q (.dt (.int (j : Nat))) δ
  | _ => False
def tdIndex (ta tb : TD) : TD := fun δ Q => ta δ fun r δ1 => match fz r with
  | some (.lst xs) => tb δ1 fun r2 δ2 => match fz r2 with
    | some e => fIndex (.lst xs) e δ2 Q
    | none => False
  | _ => False
theorem pd_index {X : Cx} {o e : Expr} {ta tb : TD} {p1 p2 : Pos} (hu : X.A.units + 65 < cLine) (ho : PD X o ta) (he : PD X e tb) (hbase : attributeBase o "index" X.env (eval o X.env) = eval o X.env := by rfl)
    (hfew : ((backTo p2 (starEach [e] X.env)).all (fun x => !x.1) && (backToKw p2 (keywordEach [] X.env)).all (fun x => x.1.isSome)
      && decide ([e].length + ([] : List Keyword).length + (if ([] : List Keyword).isEmpty then 0 else 1) < 30)) = true := by rfl)
    (hline : (p1.endLine == p2.line) = true := by rfl) (hst : starEach [e] X.env = (false, eval e X.env) :: starEach [] X.env := by rfl) (hplain : (backTo p2 (starEach [] X.env)).any (·.1) = false := by rfl) :
    PD X (.Call (.Attribute o "index" p1) [e] [] p2) (tdIndex ta tb) := by
  refine ⟨PE.weak (pe_bm PySem.F.plainAttrs_list PySem.F.slot_list_index PySem.F.type_list_index (mt_indexD hu) ho.pe (pa_cons he.pe pa_nil hst) hbase hfew hline hst hplain) fun σ H Q ⟨B, H0, G0, δ, G, R, q⟩ => ?_, fun δ Q Q' q w => ho.mono _ _ _ q fun r δ1 q => ?_⟩
  · refine ⟨B, H0, G0, δ, G, R, ho.mono _ _ _ q fun r δ1 q v H1 G1 R1 s1 f1 ok => ?_⟩
    split at q
    · rename_i xs e1
      obtain ⟨G2, R2, s2, hd⟩ := freeze R1 ok e1
      cases hd with
      | @lst a vs _ h1 h2 =>
        refine ⟨.inl ⟨rfl, vs, SqL.of (R2.sub _ _ h1)⟩, B, H0, G0, δ1, G2, R2, he.mono _ _ _ q fun r2 δ2 q2 y H3 G3 R3 s3 f3 ok2 => ?_⟩
        split at q2
        · rename_i e0 e2
          obtain ⟨G4, R4, s4, hy⟩ := freeze R3 ok2 e2
          obtain ⟨sh1, sh2, j, z, h3, h4, h5, q⟩ := q2
          have hd4 : Dd X.K G4 (.ref a) (.lst xs) := Dd.mono (s3.trans s4) _ _ (.lst h1 h2)
          exact ⟨a, y, py e0, pyA xs, j, z, rfl, rfl, Dd.dp R4.sub _ _ (shaped_lay sh1) hd4, Dd.dp R4.sub _ _ (shaped_lay sh2) hy, sh1, sh2, h3, h4, h5, aft_here R4 (.int _) (aftUp q (((s1.trans s2).trans s3).trans s4) (f1.trans f3))⟩
        · exact q2.elim
    · exact q.elim
  · split at q
    · refine he.mono _ _ _ q fun r2 δ2 q2 => ?_
      split at q2
      · obtain ⟨h1, h2, j, z, h3, h4, h5, q⟩ := q2
        exact ⟨h1, h2, j, z, h3, h4, h5, w _ _ q⟩
      · exact q2
    · exact q
/-! ### x[i], x[j] = (a, b) -/
def tdPut2 (i : Nat) (ti tj te : TD) : TDS := fun D δ => te δ fun r δ1 => match r with
  | .dt (.tup [d1, d2]) => putK i ti (fun δ2 => putK i tj D.nx d2 δ2) d1 δ1
  | _ => False
theorem putK_mono {i : Nat} {ti : TD} (m : MonoD ti) {n n' : List Sl → Prop} {d : D} {δ : List Sl} (h : putK i ti n d δ) (w : ∀ δ, n δ → n' δ) : putK i ti n' d δ := by
  unfold putK at h ⊢
  split at h
  · refine m _ _ _ h fun r2 δ2 q2 => ?_
    split at q2
    · obtain ⟨j, hj, qn⟩ := q2; exact ⟨j, hj, w _ qn⟩
    · exact q2
  · exact h
theorem putK_run {X : Cx} {o j : Expr} {p1 : Pos} {ti : TD} {i : Nat} (hj : PD X j ti) {B : Bg} {H0 G0 H1 : Hp} {σ : L2.St} {δ1 : List Sl} {G1 : Hp} (R1 : Rel X.K B H0 G0 H1 σ δ1 G1) {v : V} {d : D} (hd : Dd X.K G1 v d) {n : List Sl → Prop} (hq : putK i ti n d δ1) {Qf : L2.St → Hp → Prop}
    (w : ∀ δ2 H2 G2, n δ2 → Rel X.K B H0 G0 H2 σ δ2 G2 → Same G1 G2 → Qf σ H2) : gSub (tVar i) (tyE X.K ti) rSetL v σ H1 Qf := by
  unfold putK at hq
  split at hq
  · rename_i ds0 e1
    obtain ⟨a, xs, ev, oa, ha, hA⟩ := R1.ol e1
    refine ⟨_, ev, B, H0, G0, δ1, G1, R1, hj.mono _ _ _ hq fun r2 δ2 q2 y H2 G2 R2 s2 f2 ok => ?_⟩
    split at q2
    · rename_i k ds e2
      obtain ⟨jj, hjj, qn⟩ := q2
      cases ok.1
      obtain ⟨a2, xs2, ev2, oa2, ha2, hA2⟩ := R2.ol e2
      rw [ev] at ev2; cases ev2
      refine ⟨a, xs2, k, jj, rfl, rfl, ha2, by rw [hA2.len]; exact hjj, ?_⟩
      exact w _ _ G2 qn (R2.write oa2 (show (xs2.set jj v).length ≤ sizeLine by rw [List.length_set]; exact R2.sz _ _ ha2) rfl ⟨_, upd_same, hA2.set jj (Dd.mono s2 _ _ hd)⟩) s2
    · exact q2.elim
  · exact hq.elim
theorem pds_put2 {X : Cx} {o o2 j j2 e : Expr} {pos p1 p2 pt : Pos} {kt : Nat} {ti tj te : TD} {i : Nat} (hc : X.calm = true) (ho : PE X o (tVar i)) (ho2 : PE X o2 (tVar i)) (hj : PD X j ti) (hj2 : PD X j2 tj) (he : PD X e te)
    (hs : swapsWithSole [.Tuple [.Subscript o j p1, .Subscript o2 j2 p2] kt pt] e pos.line X.env = pure false := by rfl) (hw : swappedStores [.Tuple [.Subscript o j p1, .Subscript o2 j2 p2] kt pt] e X.env = pure none := by rfl)
    (h1 : (assignEach [.Tuple [.Subscript o j p1, .Subscript o2 j2 p2] kt pt] X.env).map (·.2) = [assign (.Tuple [.Subscript o j p1, .Subscript o2 j2 p2] kt pt) X.env] := by rfl)
    (hn : (assignEach [.Subscript o j p1, .Subscript o2 j2 p2] X.env).length = 2 := by rfl) (hst : (assignEach [.Subscript o j p1, .Subscript o2 j2 p2] X.env).findIdx? (·.1) = none := by rfl)
    (hs1 : (assignEach [.Subscript o j p1, .Subscript o2 j2 p2] X.env).map (·.2) = assign (.Subscript o j p1) X.env :: (assignEach [.Subscript o2 j2 p2] X.env).map (·.2) := by rfl)
    (hs2 : (assignEach [.Subscript o2 j2 p2] X.env).map (·.2) = assign (.Subscript o2 j2 p2) X.env :: (assignEach [] X.env).map (·.2) := by rfl)
    (ha : ∀ v, assign (.Subscript o j p1) X.env v = (do
      let ov ← holding [v] (eval o X.env)
      let iv ← holding [v, ov] (eval j X.env)
      standAt p1
      holding [v, ov, iv] (setItem ov iv v)
      release [v, ov, iv] []) := by intro _; rfl)
    (ha2 : ∀ v, assign (.Subscript o2 j2 p2) X.env v = (do
      let ov ← holding [v] (eval o2 X.env)
      let iv ← holding [v, ov] (eval j2 X.env)
      standAt p2
      holding [v, ov, iv] (setItem ov iv v)
      release [v, ov, iv] []) := by intro _; rfl) : PDS X (.Assign [.Tuple [.Subscript o j p1, .Subscript o2 j2 p2] kt pt] e pos) (tdPut2 i ti tj te) := by
  refine ⟨PS.weak (ps_asg he.pe (pg_tup hc (pgs_cons (pg_sub ho hj.pe set_list ha) (pgs_cons (pg_sub ho2 hj2.pe set_list ha2) pgs_nil hs2) hs1) hn hst) hs hw h1) fun D σ H ⟨B, H0, G0, δ, G, R, q⟩ => ?_, fun D D' δ w q => he.mono _ _ _ q fun r δ1 q => ?_⟩
  · refine ⟨B, H0, G0, δ, G, R, he.mono _ _ _ q fun r δ1 q v H1 G1 R1 s1 f1 ok => ?_⟩
    split at q
    · rename_i d1 d2
      cases ok.1 with
      | @tup a xs _ ht hA =>
        cases hA with
        | @cons x1 xs1 _ _ hx1 hA1 =>
          cases hA1 with
          | @cons x2 xs2 _ _ hx2 hA2 =>
            cases hA2
            refine ⟨a, _, rfl, sameT R1.sub ht, rfl, x1, _, rfl, putK_run (o := o) (p1 := p1) hj R1 hx1 q fun δ2 H2 G2 qn R2 s2 => ?_⟩
            refine ⟨x2, _, rfl, putK_run (o := o2) (p1 := p2) hj2 R2 (Dd.mono s2 _ _ hx2) qn fun δ3 H3 G3 qn3 R3 s3 => ⟨rfl, qn3 _ _ _ R3⟩⟩
    · exact q.elim
  · split at q
    · exact putK_mono hj.mono q fun δ2 h => putK_mono hj2.mono h fun δ3 h => w.nx _ h
    · exact q
end DL

set_option Elab.async false
set_option linter.all false
set_option maxRecDepth 100000
set_option maxHeartbeats 4000000
/-! DMC: {k: tuple(v) for k, v in d.items()}, the values tuples. -/
namespace DL
open PySem PySem.Spec PyProof.Rows L2
def allTup : List D → Bool
  | [] => true
  | .tup _ :: ds => allTup ds
  | _ => false
theorem allTup_get : ∀ {ds : List D} {j : Nat} {d : D}, allTup ds = true → ds[j]? = some d → ∃ xs, d = .tup xs
  | .tup xs :: ds, 0, d, h, e => by cases e; exact ⟨xs, rfl⟩
  | .tup xs :: ds, j + 1, d, h, e => allTup_get (ds := ds) h (by simpa using e)
theorem upd_comm {H : Hp} {a b : Addr} {o u : HO} (h : a ≠ b) : upd (upd H a o) b u = upd (upd H b u) a o := by
  funext c
  by_cases ha : c = a
  · subst ha; rw [upd_same, upd_ne h, upd_same]
  · by_cases hb : c = b
    · subst hb; rw [upd_same, upd_ne ha, upd_same]
    · rw [upd_ne hb, upd_ne ha, upd_ne ha, upd_ne hb]
theorem upd_self' {H : Hp} {a : Addr} {o : HO} (h : H a = some o) : upd H a o = H := by
  funext c
  by_cases hc : c = a
  · subst hc; rw [upd_same, h]
  · rw [upd_ne hc]
theorem take_put {ks : List Key} {xs : List V} {j : Nat} {k : Key} {v : V} (nd : ks.Nodup) (hl : ks.length = xs.length) (e : (ks.zip xs)[j]? = some (k, v)) : L2.putK ((ks.zip xs).take j) k v = (ks.zip xs).take (j + 1) := by
  have hk : ks[j]? = some k := by
    rw [List.getElem?_zip_eq_some] at e; exact e.1
  have hj : j < (ks.zip xs).length := (List.getElem?_eq_some_iff.mp e).1
  have no : k ∉ ks.take j := fun hm => by
    obtain ⟨m, hm1, hm2⟩ := List.mem_iff_getElem.mp hm
    rw [List.getElem_take] at hm2
    have hmj : m < j := by rw [List.length_take] at hm1; omega
    have hjk : j < ks.length := (List.getElem?_eq_some_iff.mp hk).1
    have e2 : ks[j] = k := (List.getElem?_eq_some_iff.mp hk).2
    have := (List.nodup_iff_pairwise_ne.mp nd)
    exact absurd (List.pairwise_iff_getElem.mp this m j (by omega) hjk hmj) (by rw [hm2, e2]; simp)
  have ez : (ks.zip xs).take j = (ks.take j).zip (xs.take j) := by unfold List.zip; exact List.take_zipWith
  rw [ez, putK_new v (valV_zip_none no), ← ez, List.take_succ, e]
  rfl
def tdDcI (i ia ic : Nat) : TD := fun δ Q => match δ[i]? with
  | some (.dt (.dK ks vs)) => ia < δ.length ∧ ic < δ.length ∧ ks.Nodup ∧ allTup vs = true ∧ Q (.oK ks vs) δ
  | _ => False
theorem pd_dcItems {X : Cx} {o kx vx : Expr} {elts : List Expr} {kk : Nat} {tpos apos cpos pos : Pos} {scope : Scope} {own : List (Str × Nat)} {i ia ic : Nat} (hc : X.calm = true) (hN : X.N.Nodup) (ho : PE X o (tVar i)) (ok : BlkOk X.N X.env.scope scope own) (hia : ia ∈ own.map (·.2)) (hic : ic ∈ own.map (·.2)) (hne : ia ≠ ic)
    (hg : ∀ (s : Shared) (H : Hp) (C : Addr) (cl : List (Str × Addr)) (fp : List Addr), PG (X.blk s H scope (compEnvC scope cl C X.env) fp) (.Tuple elts kk tpos) (gTup X.K 2 (gNames [ia, ic])))
    (hk : ∀ (s : Shared) (H : Hp) (C : Addr) (cl : List (Str × Addr)) (fp : List Addr), PE (X.blk s H scope (compEnvC scope cl C X.env) fp) kx (tVar ia))
    (hv : ∀ (s : Shared) (H : Hp) (C : Addr) (cl : List (Str × Addr)) (fp : List Addr), PE (X.blk s H scope (compEnvC scope cl C X.env) fp) vx (tCB (fun xs H Q => ∃ p ys, xs = [.ref p] ∧ ((SqL X.K H p ys ∧ ∀ l, H l = none → Q (.ref l) (upd H l (.tup ys))) ∨ (SqT X.K H p ys ∧ Q (.ref p) H))) (tCons (tVar ic) tNil)))
    (hbase : attributeBase o "items" X.env (eval o X.env) = eval o X.env := by rfl) (hline : (apos.endLine == cpos.line) = true := by rfl)
    (hs : ∀ x, foldedSetIterable (.Call (.Attribute o "items" apos) [] [] cpos) X.env x = pure x := by intro _; rfl) :
    PD X (.DictComp kx vx [⟨.Tuple elts kk tpos, .Call (.Attribute o "items" apos) [] [] cpos, [], 0⟩] scope pos) (tdDcI i ia ic) := by
  refine ⟨PE.weak (pe_lock (pe_dc hc hN (pi_items ho hbase hline) ok hg (fun _ _ _ _ _ => pts_nil) hk hv hs)) fun σ H Q ⟨B, H0, G0, δ, G, R, q⟩ => ?_, fun δ Q Q' q w => ?_⟩
  · unfold tdDcI at q
    split at q
    · rename_i ks vs e1
      obtain ⟨hla, hlc, nd, at_, q⟩ := q
      rcases R.sl i _ e1 with z | ⟨v, ev, hd⟩
      · cases z
      cases hd with
      | @dK a _ xs _ h0 h1 h2 =>
        have ha := R.sub _ _ h1
        have hlen : (ks.zip xs).length = ks.length := by rw [List.length_zip, ← h0, Nat.min_self]
        refine ⟨a, .dK (ks.zip xs), ha, trivial, fun od => ?_⟩
        refine ⟨.ref a, ev, a, od, ks.zip xs, rfl, upd_same, fun D hD => ?_⟩
        have neD : D ≠ a := fun z => by rw [z, upd_same] at hD; cases hD
        have hD' : H D = none := by rw [upd_ne neD] at hD; exact hD
        obtain ⟨d0, dB, dO⟩ := R.newOwn hD'
        have gD := R.sub.free hD'
        refine ⟨fun j m Hc => j + m = (ks.zip xs).length ∧ ∃ Hn, Rel X.K B H0 G0 Hn σ δ G ∧ Fra B H Hn ∧ Hc = upd Hn a (.frz od (.dK (ks.zip xs))) ∧ Hn a = some (.dK (ks.zip xs)) ∧ Hn D = some (.dK ((ks.zip xs).take j)), ⟨_, Nat.zero_add _, upd H D (.dK []), R.laidO hD' (Nat.zero_le _), Fra.upd hD', upd_comm (Ne.symm neD), by rw [upd_ne (Ne.symm neD)]; exact ha, by rw [upd_same]; rfl⟩, fun j m Hc hW => ?_⟩
        obtain ⟨em, Hn, Rn, fn, rfl, hna, hnD⟩ := hW
        by_cases hj : j < (ks.zip xs).length
        · refine .inr ⟨⟨upd_same, hj⟩, fun H' => j + 1 + (m - 1) = (ks.zip xs).length ∧ ∃ Hn, Rel X.K B H0 G0 Hn σ δ G ∧ Fra B H Hn ∧ H' = upd Hn a (.frz od (.dK (ks.zip xs))) ∧ Hn a = some (.dK (ks.zip xs)) ∧ Hn D = some (.dK ((ks.zip xs).take (j + 1))), fun H' h => ⟨m - 1, by omega, h⟩, fun x H' y => ?_⟩
          obtain ⟨T, k, v, ekv, rfl, hT, rfl⟩ := y
          have neT : T ≠ a := fun z => by rw [z, upd_same] at hT; cases hT
          have hT' : Hn T = none := by rw [upd_ne neT] at hT; exact hT
          have neTD : T ≠ D := fun z => by rw [z, hnD] at hT'; cases hT'
          have exv : xs[j]? = some v := by rw [List.getElem?_zip_eq_some] at ekv; exact ekv.2
          have lv : j < vs.length := by rw [← h2.len]; exact (List.getElem?_eq_some_iff.mp exv).1
          obtain ⟨v', ev', hdv⟩ := h2.get (List.getElem?_eq_getElem lv)
          rw [exv] at ev'
          cases ev'
          obtain ⟨ys, ey⟩ := allTup_get at_ (List.getElem?_eq_getElem lv)
          rw [ey] at hdv
          cases hdv with
          | @tup p zs _ ht hA =>
            have lw : (wipe σ (own.map (·.2))).length = δ.length := by rw [wipe_length]; exact R.len
            refine ⟨T, [kV k, .ref p], rfl, .inl (.inl upd_same), rfl, kV k, _, rfl, .ref p, _, rfl, rfl, ?_, ?_⟩
            · rw [wipe_set hic, wipe_set hia, wipe_wipe]
            · refine ⟨kV k, ?_, .ref p, ?_, ?_⟩
              · rw [List.getElem?_set_ne (Ne.symm hne), List.getElem?_set_self (by rw [lw]; exact hla)]
              · rw [List.getElem?_set_self (by rw [List.length_set, lw]; exact hlc)]
              · have hs1 : SqT X.K Hn p zs := sameT Rn.sub ht
                have hs2 : SqT X.K (upd (upd Hn a (.frz od (.dK (ks.zip xs)))) T (.tup [kV k, .ref p])) p zs := by
                  rcases hs1 with hh | hh
                  · have pa : p ≠ a := fun z => by
                      subst z
                      rcases hh with hh | ⟨o2, hh⟩
                      · rw [hna] at hh; cases hh
                      · rw [hna] at hh; cases hh
                    have pT : p ≠ T := fun z => by
                      subst z
                      rcases hh with hh | ⟨o2, hh⟩
                      · rw [hT'] at hh; cases hh
                      · rw [hT'] at hh; cases hh
                    left
                    rcases hh with hh | ⟨o2, hh⟩
                    · left; rw [upd_ne pT, upd_ne pa]; exact hh
                    · right; exact ⟨o2, by rw [upd_ne pT, upd_ne pa]; exact hh⟩
                  · exact .inr hh
                refine ⟨p, zs, rfl, .inr ⟨hs2, (ks.zip xs).take j, k, rfl, by rw [upd_ne (Ne.symm neTD), upd_ne neD]; exact hnD, ?_, by omega, upd (upd Hn T (.tup [kV k, .ref p])) D (.dK ((ks.zip xs).take (j + 1))), ?_, ?_, ?_, ?_, ?_⟩⟩
                · rw [List.length_take]
                  have := Rn.sz _ _ hna
                  have z : (ks.zip xs).length ≤ sizeLine := this
                  omega
                · refine (Rn.laidO (o := .tup [kV k, .ref p]) hT' (show ([kV k, V.ref p] : List V).length ≤ sizeLine by exact le_szL rfl)).writeFree d0 gD dB dO ?_
                  show ((ks.zip xs).take (j + 1)).length ≤ sizeLine
                  rw [List.length_take]
                  have z : (ks.zip xs).length ≤ sizeLine := Rn.sz _ _ hna
                  omega
                · intro b o hb nB
                  have h3 := fn b o hb nB
                  rw [upd_ne (fun z => by rw [z, hD'] at hb; cases hb), upd_ne (fun z => by rw [z, hT'] at h3; cases h3)]
                  exact h3
                · rw [take_put nd h0 ekv, upd_comm neT.symm, upd_comm neD.symm]
                · rw [upd_ne neD.symm, upd_ne neT.symm]; exact hna
                · rw [upd_same]
        · have ej : j = (ks.zip xs).length := by omega
          subst ej
          refine .inl ⟨⟨upd_same, Nat.le_refl _⟩, upd_same, ?_⟩
          rw [upd_upd, upd_self' hna]
          rw [List.take_length] at hnD
          refine q (.ref D) Hn G Rn (Same.refl _) fn ⟨⟨D, rfl, gD, xs, h0, hnD, h2⟩, (fun z => nomatch z), fun _ b eb => by cases eb; exact ⟨d0, dB, dO⟩⟩
    · exact q.elim
  · unfold tdDcI at q ⊢
    split at q
    · exact ⟨q.1, q.2.1, q.2.2.1, q.2.2.2.1, w _ _ q.2.2.2.2⟩
    · exact q
end DL

set_option Elab.async false
set_option linter.all false
set_option maxRecDepth 100000
set_option maxHeartbeats 4000000
/-! DMD: what a class with own __eq__, __len__, __getitem__ must have, by a Bool. -/
namespace DL
open PySem PySem.Spec PyProof.Rows L2
structure OwnC (K : PySem.W.Frag) (C : Addr) : Prop where
  ne : NeOwn K C
  ha : PySem.W.findIn K (.ref C) "__class__" = some (some (.builtin "object.__class__"))
  hn : PySem.W.specialIn K (.builtin "object.__class__") "__get__" = some (some (.builtin "getset_descriptor.__get__"))
  htk : PySem.W.takesIn K (.builtin "object.__class__") = some true
  hm : PySem.W.mroIn K C (.type "object") = some true
  fi : ∀ f, Meth K C "__getitem__" f → PySem.W.fnIn K f = true
theorem OwnC.ic {K : PySem.W.Frag} {C : Addr} (o : OwnC K C) (c : Cls K C) : IsC K C := ⟨c, o.ha, o.hn, o.htk, o.hm⟩
def ownB (K : PySem.W.Frag) (C : Addr) : Bool :=
  PySem.W.findIn K (.ref C) "__ne__" == some (some (.builtin "object.__ne__")) && (PySem.W.subIn K (.ref C) (.type "object") == some true && (PySem.W.findIn K (.ref C) "__class__" == some (some (.builtin "object.__class__")) &&
  (PySem.W.specialIn K (.builtin "object.__class__") "__get__" == some (some (.builtin "getset_descriptor.__get__")) && (PySem.W.takesIn K (.builtin "object.__class__") == some true && (PySem.W.mroIn K C (.type "object") == some true &&
  (match PySem.W.findIn K (.ref C) "__getitem__" with | some (some (.ref f)) => PySem.W.fnIn K f | _ => true))))))
theorem ownB_ok {K : PySem.W.Frag} {C : Addr} (h : ownB K C = true) : OwnC K C := by
  unfold ownB at h
  simp only [Bool.and_eq_true, beq_iff_eq] at h
  obtain ⟨h1, h2, h3, h4, h5, h6, h7⟩ := h
  refine ⟨⟨h1, h2⟩, h3, h4, h5, h6, fun f m => ?_⟩
  rw [m.at_] at h7
  exact h7
end DL

set_option Elab.async false
set_option linter.all false
set_option maxRecDepth 100000
set_option maxHeartbeats 4000000
/-! DME: an own list is lent to a def and stays owned; x.append(e) where e changes another list. -/
namespace DL
open PySem PySem.Spec PyProof.Rows L2
section
variable {K : PySem.W.Frag} {B : Bg} {H0 G0 H H' G G' : Hp} {σ : L2.St} {δ : List Sl}
theorem Rel.reownO (R : Rel K B H0 G0 H σ δ G) {j : Nat} {a : Addr} {xs : List V} {L : List D} (es : σ[j]? = some (some (.ref a))) (ha : H a = some (.lst xs)) (hA : DdA K G xs L) (ga : G a = none) (h0 : H0 a = none) (nb : NotB B a) (no : ∀ i, ¬ Own σ δ i a) : Rel K B H0 G0 H σ (δ.set j (.ol L)) G := by
  have z := R.assign (v := .ref a) (r := .ol L) ⟨⟨a, rfl, ga, xs, ha, hA⟩, (fun z => nomatch z), fun _ b e => by cases e; exact ⟨h0, nb, no⟩⟩ j
  rw [set_self es] at z
  exact z
theorem Rel.callO (R : Rel K B H0 G0 H σ δ G) {j : Nat} {a : Addr} (o : Own σ δ j a) {v : V} {r : Sl} {L' : List D} (k : RetM K B H G H' G' a v r L') : Rel K B H0 G0 H' σ (δ.set j (.ol L')) G' ∧ ResOk K B H0 H' σ (δ.set j (.ol L')) G' v r := by
  obtain ⟨h0, ga, nb⟩ := R.own j a o
  obtain ⟨R1, no⟩ := R.unslot o
  obtain ⟨R2, ok⟩ := (R1.del h0 ga nb no).call k.rk
  obtain ⟨xs, hx, hA⟩ := k.la
  refine ⟨?_, ok.1, ok.2.1, fun io b e => ?_⟩
  · have z := R2.reownO (j := j) o.1 hx hA k.ga h0 nb no
    rw [List.set_set] at z
    exact z
  · obtain ⟨z1, z2, z3⟩ := ok.2.2 io b e
    refine ⟨z1, z2, fun i ⟨e1, s, e2, io2⟩ => ?_⟩
    rcases getSet e2 with ⟨h1, h2, h3⟩ | ⟨h1, h2⟩ | ⟨_, _, h⟩
    · subst h1
      rw [o.1] at e1
      cases e1
      exact k.va io e
    · exact z3 i ⟨e1, s, by rw [List.getElem?_set_ne h1]; exact h2, io2⟩
    · exact h.elim
end
/-- f(a, x): x an own list -/
def tdCallO (t : TM) (ta : TD) (j : Nat) : TD := fun δ Q => ta δ fun r δ1 => match az r, δ1[j]? with
  | some r', some (.ol L) => t [r'] L (fun s L' => Q s (δ1.set j (.ol L')))
  | _, _ => False
section
variable {X : Cx} {e y o : Expr} {pos p p1 p2 : Pos} {k j i : Nat} {t : TM} {x : Str} {ta te : TD}
theorem pdm_fnO (F : FnM X.prog X.w X.K X.mg X.base k x 1 t) (hr : Room k X.A) (hg : Gl X x) (ha : PD X e ta) (hy : PE X y (tVar j))
    (hdb : (x == ("__debug__" : Str)) = false := by decide) (he : starEach [e, y] X.env = (false, eval e X.env) :: starEach [y] X.env := by rfl) (he2 : starEach [y] X.env = (false, eval y X.env) :: starEach [] X.env := by rfl) (hpl : (backTo pos (starEach [y] X.env)).any (·.1) = false := by rfl) :
    PDM X (.Call (.Name x p) [e, y] [] pos) (tdCallO t ta j) := by
  obtain ⟨f, fd, ps, h1, h2, h3, h4⟩ := F.ex
  refine ⟨PE.weak (pe_call h1 hr hg h2 h3 h4 .nil pass0 (pa_cons ha.pe (pa_cons hy pa_nil he2) he) hdb he hpl) fun σ H Q ⟨B, H0, G0, δ, G, R, q⟩ => ?_, fun δ Q Q' q w => ha.mono _ _ _ q fun r δ1 q => ?_⟩
  · refine ⟨B, H0, G0, δ, G, R, ha.mono _ _ _ q fun r δ1 q v H1 G1 R1 s1 f1 ok => ?_⟩
    split at q
    · rename_i r' L ea ej
      obtain ⟨G2, R2, s2, hA⟩ := freezeA R1 ok ea
      obtain ⟨a, xs, ev, oa, hx, hD⟩ := R2.ol ej
      obtain ⟨h0, ga, nb⟩ := R2.own j a oa
      refine ⟨_, ev, [v], a, B, G2, [r'], L, rfl, rfl, R2.sub, R2.bag, R2.sz, ⟨hA, trivial⟩, ga, nb, ⟨xs, hx, hD⟩, F.mono _ _ _ _ q fun s L' q v' H' G' kk => ?_⟩
      obtain ⟨R3, ok3⟩ := R2.callO oa kk
      exact q v' H' G' R3 ((s1.trans s2).trans kk.rk.gg) ok3
    · exact q.elim
  · split at q
    · exact F.mono _ _ _ _ q fun s L' q => w _ _ q
    · exact q
theorem pds_appM (ho : PE X o (tVar i)) (he : PDM X e te) (hbase : attributeBase o "append" X.env (eval o X.env) = eval o X.env := by rfl)
    (hfew : ((backTo p2 (starEach [e] X.env)).all (fun x => !x.1) && (backToKw p2 (keywordEach [] X.env)).all (fun x => x.1.isSome)
      && decide ([e].length + ([] : List Keyword).length + (if ([] : List Keyword).isEmpty then 0 else 1) < 30)) = true := by rfl)
    (hline : (p1.endLine == p2.line) = true := by rfl) (hst : starEach [e] X.env = (false, eval e X.env) :: starEach [] X.env := by rfl) (hplain : (backTo p2 (starEach [] X.env)).any (·.1) = false := by rfl)
    (hs : swapsWith (.Call (.Attribute o "append" p1) [e] [] p2) none pos.line X.env = pure false := by rfl) : PDS X (.Expr (.Call (.Attribute o "append" p1) [e] [] p2) pos) (tdApp i te) := by
  refine ⟨PS.weak (ps_expr (pe_bm PySem.F.plainAttrs_list PySem.F.slot_list_append PySem.F.type_list_append mt_append ho (pa_cons he.pe pa_nil hst) hbase hfew hline hst hplain) hs) fun D σ H ⟨B, H0, G0, δ, G, R, q⟩ => ?_, fun D D' δ w q => ?_⟩
  · unfold tdApp at q
    split at q
    · rename_i ds0 e1
      obtain ⟨a, xs, ev, oa, ha, hA⟩ := R.ol e1
      refine ⟨_, ev, .inl ⟨rfl, _, SqL.of ha⟩, B, H0, G0, δ, G, R, he.mono _ _ _ q fun r δ1 q2 y H2 G2 R2 s2 ok => ?_⟩
      split at q2
      · rename_i d ds er e2
        obtain ⟨a2, xs2, ev2, oa2, ha2, hA2⟩ := R2.ol e2
        rw [ev] at ev2; cases ev2
        obtain ⟨G3, R3, s3, hd⟩ := freeze R2 ok er
        obtain ⟨hz, qn⟩ := q2
        rw [← hA2.len] at hz
        refine ⟨a, xs2, y, rfl, rfl, ha2, hz, ?_⟩
        refine qn σ _ G3 (R3.write oa2 (show (xs2 ++ [y]).length ≤ sizeLine by rw [List.length_append]; exact hz) rfl ⟨_, upd_same, ?_⟩)
        exact (DdA.mono s3 _ _ hA2).append (.one hd)
      · exact q2.elim
    · exact q.elim
  · unfold tdApp at q ⊢
    split at q
    · refine he.mono _ _ _ q fun r δ1 q2 => ?_
      split at q2
      · exact ⟨q2.1, w.nx _ q2.2⟩
      · exact q2
    · exact q
end
/-! ### zip of two lists -/
theorem itOk_zipL {K : PySem.W.Frag} {G : Hp} {a b : Addr} {vs ws : List V} {xs ys : List D} (h1 : G a = some (.lst vs)) (h2 : DdA K G vs xs) (h3 : G b = some (.lst ws)) (h4 : DdA K G ws ys) : ItOk K G (Itz K a b) (zipD xs ys) := by
  intro B H0 G0 H σ δ G2 R sG
  have hq1 : SqL K H a vs := SqL.of (R.sub _ _ (sG _ _ h1))
  have hq2 : SqL K H b ws := SqL.of (R.sub _ _ (sG _ _ h3))
  refine ⟨fun i d e => ?_, ⟨vs, ws, hq1, hq2, ?_⟩⟩
  · obtain ⟨x0, y0, e1, e2, rfl⟩ := zipD_get xs ys i d e
    obtain ⟨v, ev, hv⟩ := h2.get e1
    obtain ⟨w, ew, hw⟩ := h4.get e2
    refine ⟨⟨vs, ws, v, w, hq1, hq2, ev, ew⟩, fun x H3 y => ?_⟩
    obtain ⟨T, x1, y1, rfl, nT, rfl, z1, z2⟩ := y
    have e3 := z1 vs hq1
    have e4 := z2 ws hq2
    rw [ev] at e3; cases e3
    rw [ew] at e4; cases e4
    obtain ⟨R3, s3⟩ := R.laidG (o := .tup [v, w]) nT (by show (2 : Nat) ≤ sizeLine; decide)
    exact ⟨_, R3, s3, Fra.upd nT, .tup (.inl (.inl upd_same)) (.cons (Dd.mono (sG.trans s3) _ _ hv) (.cons (Dd.mono (sG.trans s3) _ _ hw) .nil))⟩
  · rw [zipD_len, h2.len, h4.len]; omega
def tdZipL (t : TDA) : TDI := fun δ Q => t δ fun rs δ' => match rs with
  | [.dt (.lst xs), .dt (.lst ys)] => Q (zipD xs ys) δ'
  | _ => False
section
variable {X : Cx} {e e2 : Expr} {u : TDA} {p pos tpos : Pos}
theorem pdi_zipL {elts : List Expr} {kk : Nat} (hg : Gl X "zip") (hm : X.mg "zip" = none) (h : PDA X [e, e2] u) (hs : starEach [e, e2] X.env = (false, eval e X.env) :: starEach [e2] X.env := by rfl) (hpl : (backTo pos (starEach [e2] X.env)).any (·.1) = false := by rfl) :
    PDI X (.Tuple elts kk tpos) (.Call (.Name "zip" p) [e, e2] [] pos) (tdZipL u) := by
  refine ⟨PI.weak (RZ.pi_zipA hg hm h.pa hs hpl) fun σ H Rr ⟨B, H0, G0, δ, G, R, q⟩ => ⟨B, H0, G0, δ, G, R, h.mono _ _ _ q fun rs δ1 q vs H1 G1 R1 s1 f1 oks => ?_⟩, fun δ Q Q' q w => h.mono _ _ _ q fun r δ' q => ?_⟩
  · split at q
    · obtain ⟨v, w, rfl, hd, hd2⟩ := arg2 oks
      cases hd with
      | lst g1 g2 =>
        cases hd2 with
        | lst g3 g4 => exact ⟨_, _, _, _, rfl, .inl ⟨SqL.of (R1.sub _ _ g1), SqL.of (R1.sub _ _ g3), q _ _ _ R1 s1 f1 (itOk_zipL g1 g2 g3 g4)⟩⟩
    · exact q.elim
  · split at q
    · exact w _ _ q
    · exact q
end
end DL

set_option Elab.async false
set_option linter.all false
set_option maxRecDepth 100000
set_option maxHeartbeats 4000000
/-! DMF: sorted(list of data that are alike). -/
namespace DL
open PySem PySem.Spec PyProof.Rows L2
open PySem.W (EachIs AllAlike Sortable dataLe alike)
section
variable {X : Cx} {pins : List (Addr × Obj)} {σ : L2.St} {H G : Hp} {s : Shared}
/-- a value of the machine stands for data -/
def Sd (K : PySem.W.Frag) (G : Hp) (u : Value) (d : D) : Prop := ∃ x, RelV x u ∧ Dd K G x d
theorem each_of {K : PySem.W.Frag} : ∀ {xs : List V} {us : List Value} {ds : List D}, Vals xs us → DdA K G xs ds → EachIs (Sd K G) us ds
  | _, _, _, .nil, .nil => .nil
  | _, _, _, .cons r t, .cons h k => .cons ⟨_, r, h⟩ (each_of t k)
theorem of_each {K : PySem.W.Frag} : ∀ {us : List Value} {ds : List D}, EachIs (Sd K G) us ds → ∃ xs, Vals xs us ∧ DdA K G xs ds
  | _, _, .nil => ⟨[], .nil, .nil⟩
  | _, _, .cons ⟨x, r, h⟩ t => by
    obtain ⟨xs, a, b⟩ := of_each t
    exact ⟨x :: xs, .cons r a, .cons h b⟩
theorem each_reads (I : Inv X pins σ H s) (e : Same G H) : ∀ {us : List Value} {ds : List D}, plainA ds = true → EachIs (Sd X.K G) us ds → EachIs (fun v d => ∃ as, Reads s.heap v (py d) as) us ds
  | _, _, _, .nil => .nil
  | _, d :: ds, hp, .cons ⟨x, r, h⟩ t => by
    have z : (plainD d && plainA ds) = true := hp
    rw [Bool.and_eq_true] at z
    obtain ⟨as, ra, _⟩ := Dd.reads I e d x _ z.1 h r
    exact .cons ⟨as, ra⟩ (each_reads I e z.2 t)
/-- what sorted asks of a list of data -/
structure SrtOk (ds : List D) : Prop where
  plain : plainA ds = true
  al : AllAlike (ds.map py)
  so : Sortable (ds.map py)
  dp : ∀ d ∈ ds, (py d).depth ≤ 60
  len : ds.length ≤ sizeLine
def srtD (ds : List D) : List D := ds.mergeSort (dataLe false py)
def rSortL (K : PySem.W.Frag) : List V → Hp → VK → Prop := fun vs H Q => ∃ a G xs ds, vs = [V.ref a] ∧ Same G H ∧ SqL K H a xs ∧ DdA K G xs ds ∧ SrtOk ds ∧
  ∀ ys p, DdA K G ys (srtD ds) → H p = none → Q (.ref p) (upd H p (.lst ys))
theorem cr_sortedL (hu : X.A.units + 65 < cLine) : CallR X (.builtin "sorted") (rSortL X.K) := by
  intro pins s σ H vs us Q I r h
  obtain ⟨a, G, xs, ds, rfl, sG, hs, hd, ok, q⟩ := h
  obtain ⟨its, rv, hl, hz⟩ := I.list hs
  obtain ⟨u, rfl, ru⟩ := vals1 r
  obtain rfl : u = Value.ref a := ru
  have e := each_of rv hd
  refine PySem.W.sorted_data (enc := py) hl.isList e (each_reads I sG ok.plain e) ok.al ok.so ok.len (fun b hb => by have := ok.dp b hb; omega) fun out ho he => ?_
  obtain ⟨ys, vy, dy⟩ := of_each he
  obtain ⟨n, hn⟩ := sortedAll_at s.heap its out.toArray
  refine ⟨.ref (s.heap.objs.size + 1), upd H (s.heap.objs.size + 1) (.lst ys), I.laid (t' := s.toks) (fun b o e => sortedAll_old e) (Nat.le_succ _) ⟨?_, out, n, vy, hn⟩, rfl, q _ _ dy (I.hok.fresh (Nat.le_succ _))⟩
  have := vy.length
  have := ok.len
  omega
end
def gSrt : D → List Sl → QD → Prop := fun d δ Q => match d with
  | .lst ds => SrtOk ds ∧ Q (.ol (srtD ds)) δ
  | _ => False
section
variable {X : Cx} {e : Expr} {u : TDA} {p pos : Pos}
theorem srtD_len (ds : List D) : (srtD ds).length = ds.length := List.length_mergeSort ..
theorem pd_sortedL (hu : X.A.units + 65 < cLine) (hg : Gl X "sorted") (hm : X.mg "sorted" = none) (h : PDA X [e] u) (he : starEach [e] X.env = (false, eval e X.env) :: starEach [] X.env := by rfl) (hpl : (backTo pos (starEach [] X.env)).any (·.1) = false := by rfl) :
    PD X (.Call (.Name "sorted" p) [e] [] pos) (tdCB (f1 gSrt) u) :=
  pd_callB (cr_sortedL hu) (mono_f1 fun d δ Q Q' q w => by
      cases d <;> first | exact q | skip
      exact ⟨q.1, w _ _ q.2⟩)
    (callS_1 fun B H0 G0 H σ δ G v d Q R hd q => by
      cases hd with
      | lst h1 h2 =>
        refine ⟨_, G, _, _, rfl, R.sub, SqL.of (R.sub _ _ h1), h2, q.1, fun ys p dy hp => ?_⟩
        exact aft_own (s := .ol _) R hp (by show ys.length ≤ sizeLine; rw [dy.len, srtD_len]; exact q.1.len) rfl ⟨ys, upd_same, DdA.mono (fun b x e => e) _ _ dy⟩ q.2
      | _ => exact q.elim) hg hm boot_sorted h (by decide) (by decide) he hpl
end
end DL

set_option Elab.async false
set_option linter.all false
set_option maxRecDepth 100000
set_option maxHeartbeats 4000000
/-! DMG: sorted(list, key=f), f a def that gives data that are alike. -/
namespace DL
open PySem PySem.Spec PyProof.Rows L2
open PySem.W (EachIs AllAlike Sortable dataLe alike)
/-- what calls leave behind them -/
structure Chn (B : Bg) (H G H' G' : Hp) : Prop where
  gg : Same G G'
  gh : Same G' H'
  bag : ∀ b c, (b, c) ∈ B → BagOk H' G' b c
  fra : Fra B H H'
  sz : HSz H'
  gn : ∀ a o, G' a = some o → G a = some o ∨ H a = none
theorem BagOk.gnn {H G : Hp} {b : Addr} {c : Cell} (h : BagOk H G b c) : G b = none := by
  cases c with
  | bag d => obtain ⟨_, _, _, _, _, z, _⟩ := h; exact z
  | cnt => obtain ⟨_, _, z⟩ := h; exact z
theorem Chn.step {K : PySem.W.Frag} {B : Bg} {H G H1 G1 H2 G2 : Hp} {v : V} {r : Sl} (c : Chn B H G H1 G1) (k : RetOk K B H1 G1 H2 G2 v r) : Chn B H G H2 G2 := by
  refine ⟨c.gg.trans k.gg, k.gh, k.bag, c.fra.trans k.fra, k.sz, fun a o e => ?_⟩
  rcases k.gn a o e with z | z
  · exact c.gn a o z
  · have nb : NotB B a := fun d hd => by
      have := (k.bag a d hd).gnn
      rw [e] at this; cases this
    cases q : H a with
    | none => exact .inr rfl
    | some o' => rw [c.fra a o' q nb] at z; cases z
section
variable {X : Cx} {k : Nat} {f : Addr} {fd : FuncData} {ps : List Str} {sp : Sp} {t : TF} {kf : D → D} {pins : List (Addr × Obj)} {σ : L2.St}
theorem run_fnE {A : Around} {E : Value → Shared → Prop} {H : Hp} {s : Shared} {Q : VK} {us : List Value} {vs : List V} (F : FnOk X.prog X.w X.K X.mg X.base CX0 k f fd ps sp) (hr : Room k A) (e0 : Env0 X.prog X.w X.K X.mg X.base A X.stack s H) (hb : Binds X.K fd ps [])
    (I : Inv X pins σ H s) (r : Vals vs us) (h : sp vs H Q E0) : wpAny (model X.prog X.w) A (call (.ref f) us) (EP X pins σ Q) E s := by
  have hl : us.length = ps.length := by rw [← r.length]; exact F.len _ _ _ _ h
  have b := hb s us I.kIn (by rw [List.append_nil]; exact hl)
  rw [List.append_nil] at b
  refine wpAny_call (codeAny_mono (F.run A X.stack s H ⟨us, []⟩ us vs Q E0 hr e0 b r h) fun r s' hq => ?_)
  cases r with
  | error e => exact False.elim hq
  | ok fl =>
    cases fl with
    | ret u => exact I.after hq
    | next => exact False.elim hq
    | brk => exact False.elim hq
    | cont => exact False.elim hq
theorem vals_get : ∀ {xs : List V} {us : List Value} {j : Nat} {x : V} {u : Value}, Vals xs us → xs[j]? = some x → us[j]? = some u → RelV x u
  | _, _, 0, _, _, .cons r _, h1, h2 => by cases h1; cases h2; exact r
  | _, _, j + 1, _, _, .cons _ t, h1, h2 => vals_get (j := j) t h1 h2
/-- what sorted asks of the keys -/
structure SrtK (kf : D → D) (t : TF) (ds : List D) : Prop where
  run : ∀ d ∈ ds, t [.dt d] (fun r => r = .dt (kf d))
  ok : SrtOk (ds.map kf)
def srtK (kf : D → D) (ds : List D) : List D := ds.mergeSort (dataLe false fun d => py (kf d))
def KeyI (X : Cx) (pins : List (Addr × Obj)) (σ : L2.St) (B : Bg) (H G : Hp) (kf : D → D) (ds : List D) (a kS : Addr) (e1 : Nat) (i : Nat) (s : Shared) : Prop :=
  ∃ H' G' kA e ks, Inv X pins σ H' s ∧ Chn B H G H' G' ∧ FpOk X pins H' a ∧ FpOk X pins H' kS ∧ s.heap.get? kS = some (seqObj "list" kA e) ∧ s.heap.get? a = some (seqObj "list" #[] e1) ∧ Vals ks kA.toList ∧ DdA X.K G' ks ((ds.map kf).take i)
theorem fp_pins {H H' : Hp} {s s' : Shared} {b : Addr} {o : Obj} {fp : List Addr} (h : FpOk X pins H b) (I : Inv X (pins ++ pinsAt fp s.heap) σ H' s') (hb : b ∈ fp) (e : s.heap.get? b = some o) : FpOk X pins H' b ∧ s'.heap.get? b = some o := by
  obtain ⟨z1, z2, _⟩ := I.pin (b, o) (List.mem_append_right _ (List.mem_append_right _ (mem_pinsAt hb e)))
  exact ⟨⟨z2, h.2⟩, z1⟩
theorem keyI_rest {A : Around} {E : Value → Shared → Prop} {P : PySem.Fin → Shared → Prop} {B : Bg} {H G : Hp} {ds : List D} {a kS : Addr} {e1 : Nat} {s : Shared} {xs : List V} {its : List Value}
    (F : FnOk X.prog X.w X.K X.mg X.base CX0 k f fd ps (spD X.K 1 t)) (hr : Room k A) (he : ∀ s' H', Inv X pins σ H' s' → Env0 X.prog X.w X.K X.mg X.base A X.stack s' H') (hb : Binds X.K fd ps []) (mt : MonoF t)
    (rv : Vals xs its) (hd : DdA X.K G xs ds) (ok : SrtK kf t ds) (hu : A.units + 60 < cLine) (hka : kS ≠ a) (h0 : KeyI X pins σ B H G kf ds a kS e1 0 s)
    (h : ∀ s' out c H' G', Inv X pins σ H' s' → Chn B H G H' G' → FpOk X pins H' a → s'.heap.get? a = some (seqObj "list" (List.toArray out) c) → EachIs (Sd X.K G) out (srtK kf ds) → P (.done (.ret .none)) s') :
    wpAny (model X.prog X.w) A (ksk_rest a (.ref f) false its.toArray e1 (.ref kS)) P E s := by
  have e := each_of rv hd
  have hln : its.length = ds.length := e.length
  have hZ : its.length ≤ sizeLine := by rw [hln]; have := ok.ok.len; rw [List.length_map] at this; exact this
  unfold ksk_rest
  refine wpAny_bind (wpAny_rule ?_)
  first
    | rw [List.forIn_toArray]
    | (rw [← Array.forIn_toList]; simp only [List.toList_toArray])
    | rw [← Array.forIn_toList]
  refine wpAny_bind (ksk_fold (KeyI X pins σ B H G kf ds a kS e1) its 0 s h0 ?step ?done)
  case step =>
    rintro j u s' hx ⟨H', G', kA, e2, ks, I, ch, fa, fk, nk, na, vk, dk⟩
    simp only [Nat.zero_add] at dk ⊢
    have hj : j < its.length := (List.getElem?_eq_some_iff.mp hx).1
    obtain ⟨d, hdj⟩ : ∃ d, ds[j]? = some d := ⟨_, List.getElem?_eq_getElem (by omega)⟩
    obtain ⟨x, hxj, hxd⟩ := hd.get hdj
    have rx : RelV x u := vals_get rv hxj hx
    have hz : kA.size ≤ its.length := by
      have h1 := vk.length
      have h2 := dk.len
      rw [List.length_take, List.length_map] at h2
      rw [← Array.length_toList]
      omega
    have I2 := I.pinned (fp := [a, kS]) (fun b hb => by
        simp only [List.mem_cons, List.not_mem_nil, or_false] at hb
        rcases hb with rfl | rfl
        · exact fa
        · exact fk) (fun b hb => by
        simp only [List.mem_cons, List.not_mem_nil, or_false] at hb
        rcases hb with rfl | rfl
        · exact ⟨_, na, fun v z => by cases z⟩
        · exact ⟨_, nk, fun v z => by cases z⟩)
    refine wpAny_bind (wpAny_attempt (wpAny_mono (run_fnE (us := [u]) (vs := [x]) (E := fun _ _ => False) (Q := fun v H'' => ∃ G'', RetOk X.K B H' G' H'' G'' v (.dt (kf d))) F hr (he _ _ I) hb I2 (.cons rx .nil) ?_) (fun v s'' hq => ?_) fun _ _ hF => hF.elim))
    · exact ⟨rfl, B, G', [.dt d], ch.gh, ch.bag, ch.sz, ⟨hxd.mono ch.gg, trivial⟩, mt _ _ _ (ok.run d (List.mem_of_getElem? hdj)) fun r er v H2 G2 rk => by subst er; exact ⟨G2, rk⟩⟩
    · obtain ⟨v', H2, I3, rv2, G2, rk⟩ := hq
      obtain ⟨fa2, na2⟩ := fp_pins fa I3 (by simp) na
      obtain ⟨fk2, nk2⟩ := fp_pins fk I3 (by simp) nk
      have I4 := I3.unpinned
      have s1 := Heap.SameBut.update s''.heap kS (Obj.mapSeq (·.push v))
      obtain ⟨c2, hc2⟩ : ∃ c2, (s''.heap.update kS (Obj.mapSeq (·.push v))).get? kS = some (seqObj "list" (kA.push v) c2) := ⟨_, get?_update_seq nk2 (·.push v)⟩
      dsimp only
      refine wpAny_bind (listUpdate_at nk2 rfl ?_ (Nat.le_trans hz hZ) (Nat.le_trans (Nat.le_of_eq (Array.size_push ..)) (Nat.succ_le_succ (Nat.le_trans hz hZ))))
      refine wpAny_pure ⟨rfl, H2, G2, kA.push v, c2, ks ++ [v'], ?_, ch.step rk, fa2, fk2, hc2, (s1.2 a hka.symm).trans na2, ?_, ?_⟩
      · exact I4.turnedL (ch := [kS]) (fun b o hb e => (s1.2 b (fun z => hb (by simp [z]))).trans e) (fun b hb => by rw [List.mem_singleton.mp hb]; exact fk2)
      · have : (kA.push v).toList = kA.toList ++ [v] := by simp
        rw [this]
        exact vk.append (.cons rv2 .nil)
      · have ek : (ds.map kf).take (j + 1) = (ds.map kf).take j ++ [kf d] := by rw [List.take_add_one, List.getElem?_map, hdj]; simp
        rw [ek]
        exact (dk.mono rk.gg).append (.one rk.val)
  case done =>
    rintro s' ⟨H', G', kA, e2, ks, I, ch, fa, fk, nk, na, vk, dk⟩
    have e3 : (ds.map kf).take (0 + its.length) = ds.map kf := List.take_of_length_le (by rw [List.length_map]; omega)
    rw [e3] at dk
    have ek := each_of vk dk
    have er := each_reads I ch.gh ok.ok.plain ek
    have hsz : kA.size = its.length := by
      have h1 := ek.length
      rw [Array.length_toList, List.length_map] at h1
      omega
    have ez : (ds.map kf).map py = ds.map fun d => py (kf d) := by rw [List.map_map]; rfl
    have er' : EachIs (fun v k => ∃ as, Reads s'.heap v k as) kA.toList ((ds.map kf).map py) := PySem.W.each_map (R := fun v d => ∃ as, Reads s'.heap v d as) py er
    have al := ok.ok.al
    have so := ok.ok.so
    have dp : ∀ d ∈ (ds.map kf).map py, A.units + d.depth < cLine := fun d hd => by
      obtain ⟨y, hy, rfl⟩ := List.mem_map.mp hd
      have := ok.ok.dp y hy
      omega
    rw [ez] at er' al so dp
    refine wpAny_bind (listItems_at nk rfl ?_)
    have n1 : (s'.heap.update kS fun o => { o with data := .freed }).get? kS = none := by
      show (match (s'.heap.objs.modify kS fun o => { o with data := .freed })[kS]? with | some ⟨_, _, .freed, _⟩ => none | o => o) = none
      rw [Array.getElem?_modify, if_pos rfl]
      cases s'.heap.objs[kS]? <;> rfl
    have sb := Heap.SameBut.update s'.heap kS fun o => { o with data := .freed }
    have k1 : PySem.W.KeepsBut a (s'.heap.update kS fun o => { o with data := .freed }) s'.heap := fun b o hb e => by
      by_cases z : b = kS
      · subst z; rw [n1] at e; cases e
      · rw [sb.2 b z] at e; exact e
    refine PySem.W.keyH_end (κ := PySem.W.dataKind s'.heap (ds.map fun d => py (kf d))) k1 n1 nk na hka (PySem.W.SortsAt.data (s := s') er' al so dp) hsz hZ fun h3 tk3 c k3 n3 => ?_
    refine h _ _ c H' G' (I.turnedL (t' := tk3) (ch := [a, kS]) (fun b o hb e => ?_) (fun b hb => ?_)) ch fa n3 (PySem.W.keyedOut_each (fun d => py (kf d)) ⟨s'.heap, kA.toList, al, rfl, er'⟩ (each_of rv hd))
    · simp only [List.mem_cons, List.not_mem_nil, or_false, not_or] at hb
      exact k3 b o hb.1 ((sb.2 b hb.2).trans e)
    · simp only [List.mem_cons, List.not_mem_nil, or_false] at hb
      rcases hb with rfl | rfl
      · exact fa
      · exact fk
def rSortK (K : PySem.W.Frag) (f : Addr) (kf : D → D) (t : TF) : List V → List V → Hp → VK → Prop := fun vs zs H Q => ∃ a B G xs ds, vs = [V.ref a] ∧ zs = [V.ref f] ∧ Same G H ∧ (∀ b c, (b, c) ∈ B → BagOk H G b c) ∧ HSz H ∧ SqL K H a xs ∧ DdA K G xs ds ∧ SrtK kf t ds ∧
  ∀ ys p H' G', Chn B H G H' G' → DdA K G' ys (srtK kf ds) → H' p = none → H p = none → Q (.ref p) (upd H' p (.lst ys))
theorem cr_sortedK (F : FnOk X.prog X.w X.K X.mg X.base CX0 k f fd ps (spD X.K 1 t)) (hr : Room (k + 2) X.A) (hb : Binds X.K fd ps []) (mt : MonoF t) (hu : X.A.units + 65 < cLine) : CallRK X (.builtin "sorted") [Str.ofString "key"] (rSortK X.K f kf t) := by
  intro pins s σ H vs zs us ws Q I r rz h
  obtain ⟨a, B, G, xs, ds, rfl, rfl, sub, bag, sz, hs, hd, ok, q⟩ := h
  obtain ⟨its, rv, hl, hz⟩ := I.list hs
  obtain ⟨u, rfl, ru⟩ := vals1 r
  obtain rfl : u = Value.ref a := ru
  obtain ⟨w1, rfl, rw1⟩ := vals1 rz
  obtain rfl : w1 = Value.ref f := rw1
  have hln : its.length = ds.length := (each_of rv hd).length
  have hZ : its.length ≤ sizeLine := by rw [hln]; have := ok.ok.len; rw [List.length_map] at this; exact this
  refine PySem.W.sorted_of_sort hl.isList hZ (ksk_s1 _ _) (fun _ => ksk_l1 _ _) fun E' => ?_
  show wpAny (model X.prog X.w) X.A.in1.in1 (ksk_tree (s.heap.objs.size + 1) (.ref f) false) _ E' _
  obtain ⟨n, ho⟩ : ∃ n, (PySem.W.copyHeap s.heap its).get? (s.heap.objs.size + 1) = some (seqObj "list" its.toArray n) := ⟨_, PySem.W.copyHeap_at s.heap its⟩
  obtain ⟨e1, ho1⟩ : ∃ e1, ((PySem.W.copyHeap s.heap its).update (s.heap.objs.size + 1) (Obj.mapSeq fun _ => (#[] : Array Value))).get? (s.heap.objs.size + 1) = some (seqObj "list" #[] e1) := ⟨_, get?_update_seq ho fun _ => #[]⟩
  have lc : s.heap.objs.size + 1 < (PySem.W.copyHeap s.heap its).objs.size := Heap.lt_size ho
  have hkS : (((PySem.W.copyHeap s.heap its).update (s.heap.objs.size + 1) (Obj.mapSeq fun _ => (#[] : Array Value))).push (seqObj "tuple" its.toArray 0)).objs.size = (PySem.W.copyHeap s.heap its).objs.size + 1 := by rw [size_push', Heap.size_update]
  unfold ksk_tree
  refine wpAny_bind (listItems_at ho rfl ?_)
  refine wpAny_bind (listUpdate_at ho rfl ?_ (by rw [List.size_toArray]; exact hZ) (Nat.zero_le _))
  refine wpAny_bind (seqEpoch_at ho1 rfl ?_)
  refine wpAny_bind (wpAny_newTuple ?_ (by show its.length ≤ _; exact hZ))
  refine wpAny_bind (wpAny_newList ?_ (Nat.zero_le _))
  refine wpAny_holding ?_
  have kp : ∀ b o, s.heap.get? b = some o → ((((PySem.W.copyHeap s.heap its).update (s.heap.objs.size + 1) (Obj.mapSeq fun _ => (#[] : Array Value))).push (seqObj "tuple" its.toArray 0)).push (seqObj "list" #[] 0)).get? b = some o := fun b o e => by
    have hbl := Heap.lt_size e
    refine Heap.get?_push_of_some _ (Heap.get?_push_of_some _ ?_)
    rw [(Heap.SameBut.update (PySem.W.copyHeap s.heap its) (s.heap.objs.size + 1) _).2 b (Nat.ne_of_lt (Nat.lt_succ_of_lt hbl))]
    exact PySem.W.copyHeap_old e
  refine keyI_rest (X := X) (pins := pins) (σ := σ) (B := B) (H := H) (G := G) (kf := kf) (ds := ds) F hr.in1.in1 (fun s' H' I' => I'.env0.in1.in1) hb mt rv hd ok (by show X.A.units + 1 + 1 + 60 < cLine; omega) ?_ ⟨H, G, #[], 0, [], I.kept kp, ⟨Same.refl _, sub, bag, Fra.refl _ _, sz, fun _ _ e => .inl e⟩, I.fpOk (by omega) (I.hok.fresh (by omega)), I.fpOk ?_ (I.hok.fresh ?_), Heap.get?_push_size _ rfl, Heap.get?_push_of_some _ (Heap.get?_push_of_some _ ho1), .nil, ?_⟩ fun s' out c H' G' I' ch fa na he => ?_
  · rw [hkS]; exact Nat.ne_of_gt (Nat.lt_succ_of_lt lc)
  · rw [hkS]; omega
  · rw [hkS]; omega
  · rw [List.take_zero]; exact .nil
  · obtain ⟨ys, vy, dy⟩ := of_each he
    have hyl : ys.length ≤ sizeLine := by
      have := dy.len
      unfold srtK at this
      rw [List.length_mergeSort] at this
      omega
    refine ⟨rfl, .ref (s.heap.objs.size + 1), upd H' (s.heap.objs.size + 1) (.lst ys), I'.take (t' := s'.toks) (h' := s'.heap) (fun b ob _ e => e) fa ⟨hyl, out, c, vy, na⟩, rfl, q ys _ H' G' ch (dy.mono ch.gg) fa.1 (I.hok.fresh (by omega))⟩
end
def gKey (kf : D → D) (t : TF) : D → List Sl → QD → Prop := fun d δ Q => match d with
  | .lst ds => SrtK kf t ds ∧ Q (.ol (srtK kf ds)) δ
  | _ => False
theorem srtK_len (kf : D → D) (ds : List D) : (srtK kf ds).length = ds.length := List.length_mergeSort ..
section
variable {X : Cx} {k : Nat} {x : Str} {t : TF} {e : Expr} {u : TDA} {p pos np kpos : Pos}
theorem pd_sortedK (kf : D → D) (C : FnX X.prog X.w X.K X.mg X.base k x 1 t) (hr : Room (k + 2) X.A) (hu : X.A.units + 65 < cLine) (hg : Gl X "sorted") (hm : X.mg "sorted" = none) (hgx : Gl X x) (h : PDA X [e] u) (hdx : (x == ("__debug__" : Str)) = false := by decide)
    (he : backTo pos (starEach [e] X.env) = (false, eval e X.env) :: backTo pos (starEach [] X.env) := by rfl) (hpl : (backTo pos (starEach [e] X.env)).any (·.1) = false := by rfl)
    (hall : (backToKw pos (keywordEach [⟨some "key", .Name x np, kpos⟩] X.env)).all (·.1.isSome) = true := by rfl) (hnone : (backToKw pos (keywordEach [⟨some "key", .Name x np, kpos⟩] X.env)).any (·.1.isNone) = false := by rfl) (hks : (backToKw pos (keywordEach [⟨some "key", .Name x np, kpos⟩] X.env)).filterMap (·.1) = [Str.ofString "key"] := by rfl) :
    PD X (.Call (.Name "sorted" p) [e] [⟨some "key", .Name x np, kpos⟩] pos) (tdCB (f1 (gKey kf t)) u) := by
  obtain ⟨f, fd, ps, F, hmx, kp, hb⟩ := C.ex
  have mg : MonoC (f1 (gKey kf t)) := mono_f1 fun d δ Q Q' q w => by
    cases d <;> first | exact q | skip
    exact ⟨q.1, w _ _ q.2⟩
  refine ⟨PE.weak (pe_callBK (cr_sortedK (kf := kf) F hr hb C.mono hu) hg hm boot_sorted h.pa (pk_cons (pe_glob (v := .ref f) hgx hmx rfl hdx) pk_nil) (by decide) (by decide) he hpl hall hnone hks) fun σ H Q ⟨B, H0, G0, δ, G, R, q⟩ => ?_, fun δ Q Q' q w => h.mono _ _ _ q fun rs δ1 q => mg _ _ _ _ q w⟩
  refine ⟨B, H0, G0, δ, G, R, h.mono _ _ _ q fun rs δ1 q vs H1 G1 R1 s1 f1' oks => ?_⟩
  unfold f1 at q
  split at q
  · rename_i d
    obtain ⟨v, rfl, hd⟩ := arg1 oks
    cases hd with
    | lst g1 g2 =>
      refine ⟨_, B, G1, _, _, rfl, rfl, R1.sub, R1.bag, R1.sz, SqL.of (R1.sub _ _ g1), g2, q.1, fun ys p H' G' ch dy hp hp0 => ?_⟩
      have R2 := (R1.call (v := .non) (r := .dt .non) ⟨ch.gg, ch.gh, ch.bag, ch.fra, ch.sz, ch.gn, .non, (fun z => nomatch z), fun z => nomatch z⟩).1
      refine aft_own (s := .ol _) R2 hp (show ys.length ≤ sizeLine from ?_) rfl ⟨ys, upd_same, dy⟩ (aft_step (s1.trans ch.gg) (f1'.trans ch.fra) _ _ q.2)
      rw [dy.len, srtK_len]
      have := q.1.ok.len
      rw [List.length_map] at this
      exact this
    | _ => exact q.elim
  · exact q.elim
end
end DL

set_option Elab.async false
set_option linter.all false
set_option maxRecDepth 100000
set_option maxHeartbeats 4000000
/-! DMH: {x: True for x in xs}, xs a list or a tuple of tuples: each once, in the order in which they stand first. -/
namespace DL
open PySem PySem.Spec PyProof.Rows L2
abbrev Ent := NestedKey × Addr × Value
/-- all entries put in, one behind the other -/
def addAll (xs : List Ent) : List (NestedKey × Addr) → List Ent
  | [] => xs
  | p :: r => addAll (storedH xs p.1 p.2 (.bool true)) r
theorem addAll_snoc : ∀ (l : List (NestedKey × Addr)) (xs : List Ent) (p : NestedKey × Addr), addAll xs (l ++ [p]) = storedH (addAll xs l) p.1 p.2 (.bool true)
  | [], xs, p => rfl
  | q :: l, xs, p => addAll_snoc l _ p
theorem storedH_len {xs : List Ent} {k : NestedKey} {a : Addr} {v : Value} : (storedH xs k a v).length ≤ xs.length + 1 := by
  unfold storedH
  split
  · rw [List.length_map]; omega
  · rw [List.length_append]; exact Nat.le_refl _
theorem addAll_len : ∀ (l : List (NestedKey × Addr)) (xs : List Ent), (addAll xs l).length ≤ xs.length + l.length
  | [], xs => Nat.le_refl _
  | p :: l, xs => by
    have h1 := addAll_len l (storedH xs p.1 p.2 (.bool true))
    have h2 := storedH_len (xs := xs) (k := p.1) (a := p.2) (v := .bool true)
    rw [addAll, List.length_cons]
    omega
theorem storedH_mem {xs : List Ent} {k : NestedKey} {a : Addr} {v : Value} {y : Ent} (h : y ∈ storedH xs k a v) : (y.1, y.2.1) = (k, a) ∨ ∃ z ∈ xs, (z.1, z.2.1) = (y.1, y.2.1) := by
  unfold storedH at h
  split at h
  · obtain ⟨z, hz, rfl⟩ := List.mem_map.mp h
    refine .inr ⟨z, hz, ?_⟩
    unfold putAt
    split <;> rfl
  · rcases List.mem_append.mp h with h | h
    · exact .inr ⟨y, h, rfl⟩
    · rw [List.mem_singleton.mp h]; exact .inl rfl
theorem addAll_mem : ∀ (l : List (NestedKey × Addr)) (xs : List Ent) (y : Ent), y ∈ addAll xs l → (y.1, y.2.1) ∈ l ∨ ∃ z ∈ xs, (z.1, z.2.1) = (y.1, y.2.1)
  | [], xs, y, h => .inr ⟨y, h, rfl⟩
  | p :: l, xs, y, h => by
    rcases addAll_mem l _ y h with z | ⟨z, hz, e⟩
    · exact .inl (List.mem_cons_of_mem _ z)
    · rcases storedH_mem hz with q | ⟨q, hq, e2⟩
      · left
        rw [← e, q]
        exact List.mem_cons_self
      · exact .inr ⟨q, hq, e2.trans e⟩
section
variable {prog : Program} {w : World} {A : Around} {E : Value → Shared → Prop} {env : Env} {s : Shared}
/-- the loop, begun at an iterator of what is walked -/
theorem dedup_goes {scope : Scope} {cl : List (Str × Addr)} {x : Str} {pe pt pc : Pos} {j : Nat} {Q : Value → Shared → Prop} {it : Addr} {fp wr : List Addr} {its : Array Value} {St : Nat → Heap → Prop} {h2 : Heap} {kas : List (NestedKey × Addr)}
    (hh : A.handled = none) (hu : A.units + 8 < cLine) (hkind : scope.kind = .function) (hx : scope.names.lookup x = some .local) (hdb : (x == ("__debug__" : Str)) = false)
    (W : Goes prog w A (.Name x pt) it fp wr its.size (fun i v _ => its[i]? = some v) St) (h0 : St 0 h2) (big : s.heap.objs.size ≤ h2.objs.size) (hold : ∀ b o, s.heap.get? b = some o → h2.get? b = some o) (hwr : ∀ b ∈ wr, s.heap.objs.size ≤ b ∧ b < h2.objs.size) (hfp : ∀ b ∈ fp, b < h2.objs.size)
    (hits : its.toList = kas.map fun p => Value.ref p.2) (hkey : ∀ p ∈ kas, (nestedKind prog w).is s.heap p.1 p.2) (hsz : kas.length ≤ sizeLine)
    (h : ∀ D h' tk, s.heap.objs.size ≤ D → h'.DictOfH (nestedKind prog w) D (addAll [] kas) → (∀ b o, s.heap.get? b = some o → h'.get? b = some o) → Q (.ref D) { s with heap := h', toks := tk }) :
    DcGoes prog w A E env scope cl (.Name x pt) [] (.Name x pe) (.Constant (.bool true) j pc) none Q (.ref it) { s with heap := h2 } := by
  refine ⟨it, fp, wr, its.size, _, St, rfl, W, h0, fun D C s₃ hB hD => ?_⟩
  obtain ⟨⟨h₃, tk₃, rfl⟩, old, nD, nC, hDC, hnm⟩ := hB
  have kinds : (compEnvC scope cl C env).kindOf x = some .local := lookup_relabel_local hx
  have hp : ((compEnvC scope cl C env).scope.kind == .class || ((compEnvC scope cl C env).scope.kind == .module && (compEnvC scope cl C env).locals != (compEnvC scope cl C env).globals)) = false := by
    show (scope.kind == .class || (scope.kind == .module && _)) = false
    rw [hkind]; rfl
  have isAt : ∀ {h' : Heap}, (∀ b o, s.heap.get? b = some o → h'.get? b = some o) → ∀ p ∈ kas, (nestedKind prog w).is h' p.1 p.2 := fun {h'} k p hp => nestedKind_stays.stays (fun b o _ _ e _ => k b o e) (hkey p hp)
  have isAll : ∀ {h' : Heap} (i : Nat), (∀ b o, s.heap.get? b = some o → h'.get? b = some o) → ∀ y ∈ addAll [] (kas.take i), (nestedKind prog w).is h' y.1 y.2.1 := fun {h'} i k y hy => by
    rcases addAll_mem _ _ _ hy with z | ⟨z, hz, _⟩
    · exact isAt k (y.1, y.2.1) (List.mem_of_mem_take z)
    · exact (List.not_mem_nil hz).elim
  refine ⟨fun i s₁ => ∃ h' tk m, s₁ = { s with heap := h', toks := tk } ∧ h'.Ns C m ∧ h'.DictOfH (nestedKind prog w) D (addAll [] (kas.take i)) ∧ (∀ b o, s.heap.get? b = some o → h'.get? b = some o), ⟨h₃, tk₃, _, rfl, hnm, ?_, fun b o e => old b o (hold b o e)⟩, ?_, ?_, ?_⟩
  · rw [List.take_zero]
    exact ⟨_, #[], 0, hD, ⟨rfl, rfl, rfl⟩, rfl, rfl, (fun _ hx => by cases hx), List.nodup_nil⟩
  · rintro i s₁ h' tk ⟨h₄, tk₄, m, rfl, n₄, d₄, k₄⟩ hk' _
    have offD : D ∉ wr := fun z => Nat.lt_irrefl _ (Nat.lt_of_lt_of_le (hwr D z).2 nD)
    have offC : C ∉ wr := fun z => Nat.lt_irrefl _ (Nat.lt_of_lt_of_le (hwr C z).2 nC)
    have k5 : ∀ b o, s.heap.get? b = some o → h'.get? b = some o := fun b o e => hk' b o (fun z => Nat.lt_irrefl _ (Nat.lt_of_lt_of_le (Heap.lt_size e) (hwr b z).1)) (k₄ b o e)
    exact ⟨h', tk, m, rfl, n₄.at' fun o e => hk' _ o offC e, d₄.at' (fun o e => hk' _ o offD e) (isAll i k5), k5⟩
  · rintro i v s₁ hi hv st ⟨h₄, tk₄, m, rfl, n₄, d₄, k₄⟩
    have hi2 : i < kas.length := by
      have z := congrArg List.length hits
      rw [Array.length_toList, List.length_map] at z
      omega
    obtain ⟨p, hp1⟩ : ∃ p, kas[i]? = some p := ⟨_, List.getElem?_eq_getElem hi2⟩
    have ev : v = .ref p.2 := by
      have z : its.toList[i]? = some v := by simpa using hv
      rw [hits, List.getElem?_map, hp1] at z
      exact (Option.some.inj z).symm
    subst ev
    refine wpAny_assign_Name (wpAny_storeName_local kinds n₄ (fun h₆ n₆ s₆ => ?_) hp)
    refine wpAny_tests_nil ?_
    show wpAny _ _ _ _ _ _
    rw [eval_Name _ _ _ hdb]
    refine wpAny_bind (wpAny_standAt (wpAny_loadName_local hkind kinds n₆ (v := .ref p.2) (by show (if x = x then _ else _) = _; rw [if_pos rfl]) ?_))
    refine Constant_bool ?_
    have up₆ : ∀ b o, b ≠ C → h₄.get? b = some o → h₆.get? b = some o := fun b o hb e => s₆.extBut _ _ hb e
    have neC : ∀ {b : Addr} {o : Obj}, s.heap.get? b = some o → b ≠ C := fun {b o} e z => by
      have h1 := Heap.lt_size e
      rw [z] at h1
      exact Nat.lt_irrefl _ (Nat.lt_of_lt_of_le (Nat.lt_of_lt_of_le h1 big) nC)
    have k6 : ∀ b o, s.heap.get? b = some o → h₆.get? b = some o := fun b o e => up₆ b o (neC e) (k₄ b o e)
    have d6 : h₆.DictOfH (nestedKind prog w) D (addAll [] (kas.take i)) := d₄.at' (fun o e => up₆ _ o hDC e) (isAll i k6)
    have hl : (addAll [] (kas.take i)).length ≤ sizeLine := by
      have z := addAll_len (kas.take i) []
      rw [List.length_take] at z
      simp only [List.length_nil] at z
      omega
    refine wpAny_dictSet_heap (hsz := hl) hu (isAt k6 p (List.mem_of_getElem? hp1)) d6 fun h₈ d8 s8 => ?_
    have ek : kas.take (i + 1) = kas.take i ++ [p] := by rw [List.take_add_one, hp1]; rfl
    have neD : ∀ {b : Addr} {o : Obj}, s.heap.get? b = some o → b ≠ D := fun {b o} e z => by
      have h1 := Heap.lt_size e
      rw [z] at h1
      exact Nat.lt_irrefl _ (Nat.lt_of_lt_of_le (Nat.lt_of_lt_of_le h1 big) nD)
    have k8 : ∀ b o, s.heap.get? b = some o → h₈.get? b = some o := fun b o e => (s8.2 b (neD e)).trans (k6 b o e)
    refine ⟨⟨h₈, _, _, rfl, n₆.at' fun o e => (s8.2 C (Ne.symm hDC)).trans e, by rw [ek, addAll_snoc]; exact d8, k8⟩, ?_⟩
    refine W.frame _ _ _ st fun b hb o e => ?_
    have hbl := hfp b hb
    have n1 : b ≠ C := fun z => Nat.lt_irrefl _ (Nat.lt_of_lt_of_le (z ▸ hbl) nC)
    have n2 : b ≠ D := fun z => Nat.lt_irrefl _ (Nat.lt_of_lt_of_le (z ▸ hbl) nD)
    exact (s8.2 b n2).trans (up₆ b o n1 e)
  · rintro s₁ ⟨h₄, tk₄, m, rfl, n₄, d₄, k₄⟩
    have el : kas.take its.size = kas := List.take_of_length_le (by
      have z := congrArg List.length hits
      rw [Array.length_toList, List.length_map] at z
      omega)
    rw [el] at d₄
    have neC : ∀ {b : Addr} {o : Obj}, s.heap.get? b = some o → b ≠ C := fun {b o} e z => by
      have h1 := Heap.lt_size e
      rw [z] at h1
      exact Nat.lt_irrefl _ (Nat.lt_of_lt_of_le (Nat.lt_of_lt_of_le h1 big) nC)
    refine ⟨m, n₄, fun h' hs' => ?_⟩
    have k5 : ∀ b o, s.heap.get? b = some o → h'.get? b = some o := fun b o e => (hs'.2 b (neC e)).trans (k₄ b o e)
    refine h D h' tk₄ (Nat.le_trans big nD) (d₄.at' (fun o e => (hs'.2 D hDC).trans e) fun y hy => ?_) k5
    have z := isAll (h' := h') its.size k5 y
    rw [el] at z
    exact z hy
end
/-- a dict at D with these entries -/
def kdP (P : Program) (w : World) (D : Addr) (xs : List Ent) (h : Heap) : Prop := ∃ o es ep, h.get? D = some o ∧ o.ExactDict ∧ o.data = .dict es ep ∧ es.toList = xs.map (entryOfKey (nestedKind P w))
def kdO (P : Program) (w : World) (D : Addr) (xs : List Ent) : HO := .ext (kdP P w D xs)
section
variable {X : Cx} {iter : Expr} {te : TE} {scope : Scope} {own : List (Str × Nat)} {x : Str} {pe pt pc pos : Pos} {j : Nat}
/-- {x: True for x in iter}; iter a list or a tuple of tuples -/
def tDd (P : Program) (w : World) (K : PySem.W.Frag) (te : TE) : TE := fun σ H Q => te σ H fun v H1 => ∃ a vs kas, v = .ref a ∧ (SqL K H1 a vs ∨ SqT K H1 a vs) ∧ vs = kas.map (fun p => V.ref p.2) ∧ (∀ h : Heap, HOk P w H1 h → K.In h → ∀ p ∈ kas, (nestedKind P w).is h p.1 p.2) ∧
  ∀ D, H1 D = none → Q (.ref D) (upd H1 D (kdO P w D (addAll [] kas)))
theorem refs_map : ∀ {kas : List (NestedKey × Addr)} {us : List Value}, Vals (kas.map fun p => V.ref p.2) us → us = kas.map fun p => Value.ref p.2
  | [], _, .nil => rfl
  | p :: r, _, .cons (b := u) h t => by
    have e : u = Value.ref p.2 := h
    rw [List.map_cons, e, refs_map t]
theorem pe_dedup (hc : X.calm = true) (hu : X.A.units + 8 < cLine) (hi : PE X iter te) (ok : BlkOk X.N X.env.scope scope own) (hcell : ∀ y ∈ scope.names, y.2 ≠ .cell) (hx : scope.names.lookup x = some .local) (hdb : (x == ("__debug__" : Str)) = false)
    (hs : ∀ x, foldedSetIterable iter X.env x = pure x := by intro _; rfl) :
    PE X (.DictComp (.Name x pe) (.Constant (.bool true) j pc) [⟨.Name x pt, iter, [], 0⟩] scope pos) (tDd X.prog X.w X.K te) := by
  refine ⟨fun pins s σ H Q I h => ?_⟩
  have hfree : ∀ y ∈ scope.names, y.2 = .free → ∃ c, X.env.cells.lookup y.1 = some c := fun y hy e => by
    rcases ok.free y hy e with k | k
    · exact I.ok.has _ (.inl k)
    · exact I.ok.has _ (.inr k)
  refine DictComp_goes (closure_ok hfree) hcell ok.kind (fun y hy e => by rw [ok.uniq y hy, e]) (thn (hi.run pins s σ H _ I h) fun xv s1 ⟨v, H1, I1, rv, a, vs, kas, ea, hq, ev, hk, q⟩ => ?_) hs
  subst ea
  obtain rfl : xv = Value.ref a := rv
  subst ev
  have hh := I1.ok.hd hc
  have fin : ∀ D h' tk, s1.heap.objs.size ≤ D → h'.DictOfH (nestedKind X.prog X.w) D (addAll [] kas) → (∀ b o, s1.heap.get? b = some o → h'.get? b = some o) → EP X pins σ Q (.ref D) { s1 with heap := h', toks := tk } := fun D h' tk nD hd kp => by
    obtain ⟨o, es, ep, ho, e1, e2, e3, _⟩ := hd
    refine ⟨.ref D, upd H1 D (kdO X.prog X.w D (addAll [] kas)), I1.laid (t' := tk) kp nD ⟨⟨o, es, ep, ho, e1, e2, e3⟩, ⟨o, ho⟩, fun h1 h2 ⟨o, es, ep, ho, z⟩ st => ⟨o, es, ep, st o ho, z⟩⟩, rfl, q D (I1.hok.fresh nD)⟩
  have key := hk s1.heap I1.hok I1.kIn
  rcases hq with hq | hq
  · obtain ⟨its, rvs, hl, hz⟩ := I1.list hq
    have e := refs_map rvs
    rw [List.length_map] at hz
    have hlt : a < s1.heap.objs.size := by obtain ⟨o, ho, _⟩ := hl.isList; exact Heap.lt_size ho
    refine wpAny_pyIter_list hl.isList ?_
    refine dedup_goes (s := s1) hh hu ok.kind hx hdb (Goes.list hh s1.heap.objs.size a (Nat.ne_of_lt hlt) its.toArray) ⟨⟨_, Heap.get?_push_size _ rfl, rfl, rfl⟩, hl.isList.at fun o e => Heap.get?_push_of_some _ e⟩ (by rw [Heap.size_push]; exact Nat.le_succ _) (fun b o e => Heap.get?_push_of_some _ e) (fun b hb => ?_) (fun b hb => ?_) (by rw [List.toList_toArray]; exact e) key hz fin
    · rw [List.mem_singleton.mp hb, Heap.size_push]; exact ⟨Nat.le_refl _, Nat.lt_succ_self _⟩
    · rw [Heap.size_push]
      rcases List.mem_cons.mp hb with z | z
      · rw [z]; exact Nat.lt_succ_self _
      · rw [List.mem_singleton.mp z]; exact Nat.lt_succ_of_lt hlt
  · obtain ⟨its, rvs, hl, hz⟩ := I1.tuple hq
    have e := refs_map rvs
    rw [List.length_map] at hz
    have hl' : s1.heap.IsTuple a its.toArray := hl
    have hlt : a < s1.heap.objs.size := by obtain ⟨o, ho, _⟩ := hl; exact Heap.lt_size ho
    refine wpAny_pyIter_tuple hl' ?_
    refine dedup_goes (s := s1) hh hu ok.kind hx hdb (Goes.tuple hh s1.heap.objs.size a (Nat.ne_of_lt hlt) its.toArray) ⟨⟨_, Heap.get?_push_size _ rfl, rfl, rfl⟩, hl'.at fun o e => Heap.get?_push_of_some _ e⟩ (by rw [Heap.size_push]; exact Nat.le_succ _) (fun b o e => Heap.get?_push_of_some _ e) (fun b hb => ?_) (fun b hb => ?_) (by rw [List.toList_toArray]; exact e) key hz fin
    · rw [List.mem_singleton.mp hb, Heap.size_push]; exact ⟨Nat.le_refl _, Nat.lt_succ_self _⟩
    · rw [Heap.size_push]
      rcases List.mem_cons.mp hb with z | z
      · rw [z]; exact Nat.lt_succ_self _
      · rw [List.mem_singleton.mp z]; exact Nat.lt_succ_of_lt hlt
end
/-! ### list(d) -/
def rListK (P : Program) (w : World) : List V → Hp → VK → Prop := fun vs H Q => ∃ D xs, vs = [V.ref D] ∧ H D = some (kdO P w D xs) ∧ xs.length ≤ sizeLine ∧ ∀ p, H p = none → Q (.ref p) (upd H p (.lst (xs.map fun y => V.ref y.2.1)))
theorem vals_ents : ∀ {xs : List Ent}, Vals (xs.map fun y => V.ref y.2.1) (xs.map fun y => Value.ref y.2.1)
  | [] => .nil
  | _ :: _ => .cons rfl vals_ents
theorem cr_listK {X : Cx} (sm : (X.K.lookup sysModules).isSome = true) (hc : X.calm = true) : CallR X (.type "list") (rListK X.prog X.w) := by
  intro pins s σ H vs us Q I r h
  obtain ⟨D, xs, rfl, hD, hz, q⟩ := h
  obtain ⟨u, rfl, ru⟩ := vals1 r
  obtain rfl : u = Value.ref D := ru
  obtain ⟨⟨o, es, ep, ho, e1, e2, e3⟩, _, _⟩ := (show ObjOk X.prog X.w H s.heap D (kdO X.prog X.w D xs) from I.hok D _ hD)
  have lo : (D == sysModules) = false := by
    obtain ⟨ob, eo⟩ := Option.isSome_iff_exists.mp sm
    have hs := (I.bs _ _ (I.mod.kin _ _ eo)).2
    rw [beq_eq_false_iff_ne]
    intro z
    rw [z, hs] at hD
    cases hD
  have hes : es.size = xs.length := size_of_entries e3
  refine PySem.W.kdl_call (KdlSrc.rawDict (es := es) (ep := ep) lo) (I.ok.hd hc) ⟨o, ho, e1, e2⟩ (by rw [hes]; exact hz) fun h' tk acc c hk hn hacc => ?_
  have ea : acc.toList = xs.map fun y => Value.ref y.2.1 := by
    apply List.ext_getElem?
    intro i
    by_cases hi : i < acc.size
    · have z : acc[i]? = some acc[i] := by simp [hi]
      obtain ⟨hi2, e⟩ := hacc.2 i _ z
      rw [Array.getElem?_toList, z, e, List.getElem?_map]
      have e4 := entry_at e3 i
      have e5 : es[i]? = some es[i] := by simp [hi2]
      rw [e5] at e4
      cases hx : xs[i]? with
      | none => rw [hx] at e4; cases e4
      | some y => rw [hx] at e4; rw [show es[i] = _ from Option.some.inj e4]; rfl
    · rw [List.getElem?_eq_none (by rw [Array.length_toList]; omega), List.getElem?_eq_none (by rw [List.length_map, ← hes, ← hacc.1]; omega)]
  refine ⟨.ref s.heap.objs.size, upd H s.heap.objs.size (.lst (xs.map fun y => V.ref y.2.1)), I.laid (t' := tk) hk (Nat.le_refl _) ⟨by rw [List.length_map]; exact hz, xs.map fun y => Value.ref y.2.1, c, vals_ents, ?_⟩, rfl, q _ (I.hok.fresh (Nat.le_refl _))⟩
  rw [hn, ← ea]
end DL

set_option Elab.async false
set_option linter.all false
set_option maxRecDepth 100000
set_option maxHeartbeats 4000000
/-! DMI: list({x: True for x in xs}) as data. -/
namespace DL
open PySem PySem.Spec PyProof.Rows L2
mutual
/-- data as a dict's key -/
def nkD : D → Option NestedKey
  | .non => some .none
  | .int i => some (.num i)
  | .bl b => some (.num (if b = true then 1 else 0))
  | .str x => some (.text x)
  | .tup ds => (nkA ds).map .tup
  | _ => none
def nkA : List D → Option (List NestedKey)
  | [] => some []
  | d :: ds => match nkD d, nkA ds with
    | some k, some ks => some (k :: ks)
    | _, _ => none
end
section
variable {P : Program} {w : World} {K : PySem.W.Frag} {G H : Hp} {h : Heap}
mutual
theorem nk_is (hok : HOk P w H h) (kin : K.In h) (sG : Same G H) : ∀ (d : D) (v : V) (u : Value) (k : NestedKey), Dd K G v d → nkD d = some k → RelV v u → NestedIs h k u
  | .non, _, u, k, hd, e, r => by cases hd; cases e; cases r; exact .none
  | .int i, _, u, k, hd, e, r => by cases hd; cases e; obtain ⟨t, rfl⟩ := r; exact .int i t
  | .bl b, _, u, k, hd, e, r => by cases hd; cases e; cases r; exact .bool rfl
  | .str x, _, u, k, hd, e, r => by cases hd; cases e; obtain ⟨t, rfl⟩ := r; exact .text x t
  | .tup ds, _, u, k, hd, e, r => by
    cases hd with
    | @tup a xs _ h1 h2 =>
      obtain rfl : u = Value.ref a := r
      have e' : (nkA ds).map NestedKey.tup = some k := e
      cases q : nkA ds with
      | none => rw [q] at e'; cases e'
      | some ks =>
        rw [q] at e'; cases e'
        obtain ⟨its, o, n, rv, ho, hc, hdt⟩ := sqT_at hok kin (sameT sG h1)
        exact .tup ho hc hdt (by rw [List.toList_toArray]; exact nk_all hok kin sG ds xs its ks h2 q rv)
  | .lst ds, _, u, k, hd, e, r => by cases e
  | .dK ks vs, _, u, k, hd, e, r => by cases e
  | .dT ks vs, _, u, k, hd, e, r => by cases e
  | .ins C ns vs, _, u, k, hd, e, r => by cases e
theorem nk_all (hok : HOk P w H h) (kin : K.In h) (sG : Same G H) : ∀ (ds : List D) (vs : List V) (us : List Value) (ks : List NestedKey), DdA K G vs ds → nkA ds = some ks → Vals vs us → NestedAll h ks us
  | [], _, _, _, .nil, e, .nil => by cases e; exact .nil
  | d :: ds, _, _, ks, .cons h1 h2, e, .cons r1 r2 => by
    have e' : (match nkD d, nkA ds with | some k, some ks => some (k :: ks) | _, _ => none) = some ks := e
    cases q1 : nkD d with
    | none => rw [q1] at e'; cases e'
    | some k =>
      cases q2 : nkA ds with
      | none => rw [q1, q2] at e'; cases e'
      | some ks' =>
        rw [q1, q2] at e'; cases e'
        exact .cons (nk_is hok kin sG d _ _ k h1 q1 r1) (nk_all hok kin sG ds _ _ ks' h2 q2 r2)
end
end
/-- each once, the first ones stay -/
def dedB (seen : List NestedKey) : List D → List D
  | [] => []
  | d :: ds => match nkD d with
    | some k => if k ∈ seen then dedB seen ds else d :: dedB (seen ++ [k]) ds
    | none => dedB seen ds
def dedD (ds : List D) : List D := dedB [] ds
structure DedOk (ds : List D) : Prop where
  key : ∀ d ∈ ds, ∃ es k, d = .tup es ∧ nkD d = some k ∧ k.depth ≤ 8
  len : ds.length ≤ sizeLine
theorem dedB_len : ∀ (ds : List D) (seen : List NestedKey), (dedB seen ds).length ≤ ds.length
  | [], seen => Nat.le_refl _
  | d :: ds, seen => by
    unfold dedB
    split
    · split
      · exact Nat.le_succ_of_le (dedB_len ds seen)
      · exact Nat.succ_le_succ (dedB_len ds _)
    · exact Nat.le_succ_of_le (dedB_len ds seen)
theorem atKey_mem {xs : List Ent} {k : NestedKey} : (atKey xs k).isSome = true ↔ k ∈ xs.map (·.1) := by
  unfold atKey
  rw [Option.isSome_map, List.find?_isSome, List.mem_map]
  constructor
  · rintro ⟨x, hx, e⟩; exact ⟨x, hx, of_decide_eq_true e⟩
  · rintro ⟨x, hx, e⟩; exact ⟨x, hx, decide_eq_true e⟩
theorem put_keys (xs : List Ent) (k : NestedKey) (v : Value) : (xs.map (putAt k v)).map (·.1) = xs.map (·.1) ∧ (xs.map (putAt k v)).map (fun y => V.ref y.2.1) = xs.map fun y => V.ref y.2.1 := by
  rw [List.map_map, List.map_map]
  refine ⟨List.map_congr_left fun y _ => ?_, List.map_congr_left fun y _ => ?_⟩
  · show (putAt k v y).1 = y.1
    unfold putAt; split <;> rfl
  · show V.ref (putAt k v y).2.1 = V.ref y.2.1
    unfold putAt; split <;> rfl
/-- the items told by keys and addresses -/
def KasOk (K : PySem.W.Frag) (G : Hp) : List (NestedKey × Addr) → List D → Prop
  | [], [] => True
  | p :: kas, d :: ds => nkD d = some p.1 ∧ p.1.depth ≤ 8 ∧ Dd K G (.ref p.2) d ∧ KasOk K G kas ds
  | _, _ => False
theorem kas_of {K : PySem.W.Frag} {G : Hp} : ∀ {vs : List V} {ds : List D}, DdA K G vs ds → (∀ d ∈ ds, ∃ es k, d = .tup es ∧ nkD d = some k ∧ k.depth ≤ 8) → ∃ kas, vs = kas.map (fun p => V.ref p.2) ∧ KasOk K G kas ds
  | _, _, .nil, _ => ⟨[], rfl, trivial⟩
  | _, d :: ds, .cons h1 h2, hk => by
    obtain ⟨es, k, rfl, e1, e2⟩ := hk d List.mem_cons_self
    obtain ⟨kas, rfl, hr⟩ := kas_of h2 fun x hx => hk x (List.mem_cons_of_mem _ hx)
    cases h1 with
    | @tup a xs _ g1 g2 => exact ⟨(k, a) :: kas, rfl, e1, e2, .tup g1 g2, hr⟩
theorem kas_is {P : Program} {w : World} {K : PySem.W.Frag} {G H : Hp} {h : Heap} (hok : HOk P w H h) (kin : K.In h) (sG : Same G H) : ∀ {kas : List (NestedKey × Addr)} {ds : List D}, KasOk K G kas ds → ∀ p ∈ kas, (nestedKind P w).is h p.1 p.2
  | [], [], _, p, hp => (List.not_mem_nil hp).elim
  | q :: kas, d :: ds, ⟨h1, h2, h3, h4⟩, p, hp => by
    rcases List.mem_cons.mp hp with rfl | hp
    · exact ⟨nk_is hok kin sG d _ _ _ h3 h1 rfl, h2⟩
    · exact kas_is hok kin sG h4 p hp
theorem kas_ded {K : PySem.W.Frag} {G : Hp} : ∀ (kas : List (NestedKey × Addr)) (ds : List D) (xs : List Ent) (ds0 : List D), KasOk K G kas ds → DdA K G (xs.map fun y => V.ref y.2.1) ds0 → DdA K G ((addAll xs kas).map fun y => V.ref y.2.1) (ds0 ++ dedB (xs.map (·.1)) ds)
  | [], [], xs, ds0, _, h => by rw [addAll, dedB, List.append_nil]; exact h
  | p :: kas, d :: ds, xs, ds0, ⟨h1, h2, h3, h4⟩, h => by
    rw [addAll, dedB, h1]
    dsimp only
    unfold storedH
    by_cases hm : p.1 ∈ xs.map (·.1)
    · rw [if_pos (atKey_mem.mpr hm), if_pos hm]
      obtain ⟨k1, k2⟩ := put_keys xs p.1 (.bool true)
      have z := kas_ded kas ds (xs.map (putAt p.1 (.bool true))) ds0 h4 (by rw [k2]; exact h)
      rw [k1] at z
      exact z
    · rw [if_neg (fun z => hm (atKey_mem.mp z)), if_neg hm]
      have z := kas_ded kas ds (xs ++ [(p.1, p.2, .bool true)]) (ds0 ++ [d]) h4 (by rw [List.map_append]; exact h.append (.one h3))
      rw [List.map_append, List.append_assoc] at z
      exact z
def tdDed (ta : TD) : TD := fun δ Q => ta δ fun r δ1 => match fz r with
  | some d => match seqOf d with
    | some ds => DedOk ds ∧ Q (.ol (dedD ds)) δ1
    | none => False
  | none => False
section
variable {X : Cx} {iter : Expr} {ta : TD} {scope : Scope} {own : List (Str × Nat)} {x : Str} {p pe pt pc pos pos2 : Pos} {j : Nat}
theorem pd_dedup (sm : (X.K.lookup sysModules).isSome = true) (hc : X.calm = true) (hu : X.A.units + 8 < cLine) (hg : Gl X "list") (hm : X.mg "list" = none) (ha : PD X iter ta) (ok : BlkOk X.N X.env.scope scope own) (hcell : ∀ y ∈ scope.names, y.2 ≠ .cell) (hx : scope.names.lookup x = some .local) (hdb : (x == ("__debug__" : Str)) = false := by decide)
    (hs : ∀ x, foldedSetIterable iter X.env x = pure x := by intro _; rfl)
    (he : starEach [.DictComp (.Name x pe) (.Constant (.bool true) j pc) [⟨.Name x pt, iter, [], 0⟩] scope pos2] X.env = (false, eval (.DictComp (.Name x pe) (.Constant (.bool true) j pc) [⟨.Name x pt, iter, [], 0⟩] scope pos2) X.env) :: starEach [] X.env := by rfl) (hpl : (backTo pos (starEach [] X.env)).any (·.1) = false := by rfl) :
    PD X (.Call (.Name "list" p) [.DictComp (.Name x pe) (.Constant (.bool true) j pc) [⟨.Name x pt, iter, [], 0⟩] scope pos2] [] pos) (tdDed ta) := by
  refine ⟨PE.weak (pe_callTy (cr_listK sm hc) hg hm boot_list' (pa_cons (pe_dedup hc hu ha.pe ok hcell hx hdb hs) pa_nil he) (by decide) (by decide) he hpl) fun σ H Q ⟨B, H0, G0, δ, G, R, q⟩ => ?_, fun δ Q Q' q w => ha.mono _ _ _ q fun r δ1 q => ?_⟩
  · refine ⟨B, H0, G0, δ, G, R, ha.mono _ _ _ q fun r δ1 q v H1 G1 R1 s1 f1 ok1 => ?_⟩
    split at q
    · rename_i d e1
      split at q
      · rename_i ds e2
        obtain ⟨G2, R2, s2, hd⟩ := freeze R1 ok1 e1
        obtain ⟨a, vs, rfl, hq, hA⟩ := seqOf_ok R2 hd e2
        obtain ⟨kas, rfl, hk⟩ := kas_of hA q.1.key
        have hlen : kas.length = ds.length := by have := hA.len; rw [List.length_map] at this; exact this
        have hl2 : (addAll [] kas).length ≤ sizeLine := by
          have z := addAll_len kas []
          have := q.1.len
          simp only [List.length_nil] at z
          omega
        refine ⟨a, _, kas, rfl, hq, rfl, fun h hok kin p hp => kas_is hok kin R2.sub hk p hp, fun D hD => ⟨D, addAll [] kas, rfl, upd_same, hl2, fun p hp => ?_⟩⟩
        have R3 := R2.laidO (o := kdO X.prog X.w D (addAll [] kas)) hD trivial
        have hA2 := kas_ded kas ds [] [] hk .nil
        rw [List.nil_append] at hA2
        exact aft_own (s := .ol _) R3 hp (show ((addAll [] kas).map _).length ≤ sizeLine by rw [List.length_map]; exact hl2) rfl ⟨_, upd_same, hA2⟩ (aft_step (s1.trans s2) (f1.trans (Fra.upd hD)) _ _ q.2)
      · exact q.elim
    · exact q.elim
  · split at q
    · split at q
      · exact ⟨q.1, w _ _ q.2⟩
      · exact q
    · exact q
end
end DL

set_option Elab.async false
set_option linter.all false
set_option maxRecDepth 100000
set_option maxHeartbeats 4000000
/-! DMJ: a, (b, c) = ..; classes of one's own, several. -/
namespace DL
open PySem PySem.Spec PyProof.Rows L2
def gdNest (i : Nat) (is : List Nat) : TDG := fun d δ Q => match d with
  | .tup [d0, .tup ds] => ds.length = is.length ∧ Q ((is.zip ds).foldl (fun δ p => δ.set p.1 (.dt p.2)) (δ.set i (.dt d0)))
  | _ => False
theorem mono_gdNest {i : Nat} {is : List Nat} : MonoG (gdNest i is) := fun d δ Q Q' q w => by
  unfold gdNest at q ⊢
  split at q
  · exact ⟨q.1, w _ q.2⟩
  · exact q
theorem pdg_nest {X : Cx} {pos : Pos} {es : List Expr} {kk n i : Nat} {is : List Nat} (h : PG X (.Tuple es kk pos) (gTup X.K 2 (gCons (gName i) (gCons (gTup X.K n (gNames is)) gNil)))) (hn : is.length = n) : PDG X (.Tuple es kk pos) (i :: is) (gdNest i is) := by
  refine ⟨PG.weak h fun v σ H Q ⟨B, H0, G0, δ, G, d, R, hd, q⟩ => ?_, mono_gdNest⟩
  unfold gdNest at q
  split at q
  · rename_i d0 ds
    cases hd with
    | @tup a vs _ h1 h2 =>
      cases h2 with
      | @cons v0 _ _ _ h3 h4 =>
        cases h4 with
        | @cons v1 _ _ _ h5 h6 =>
          cases h6
          cases h5 with
          | @tup a2 vs2 _ g1 g2 =>
            refine ⟨a, [v0, .ref a2], rfl, sameT R.sub h1, rfl, v0, [.ref a2], rfl, .ref a2, [], rfl, a2, vs2, rfl, sameT R.sub g1, (g2.len.trans q.1).trans hn, ?_⟩
            exact gNames_run (vs0 := i :: is) (σ0 := σ) is vs2 ds _ _ (fun _ z => List.mem_cons_of_mem _ z) (wipe_set List.mem_cons_self) (R.assign (resOk_dt h3) i) g2 q.1 fun σ' w R' => ⟨rfl, q.2 σ' w R'⟩
  · exact q.elim
end DL

set_option Elab.async false
set_option linter.all false
set_option maxRecDepth 100000
set_option maxHeartbeats 4000000
/-! DMK: tuple(range(n)); a, b = x, y with a name that a comprehension reads, the second owned. -/
namespace DL
open PySem PySem.Spec PyProof.Rows L2
def tdTupR (ta : TD) : TD := fun δ Q => ta δ fun r δ' => match r with
  | .dt (.int n) => RgOk 0 n ∧ Q (.dt (.tup (zs 0 n.toNat))) δ'
  | _ => False
section
variable {X : Cx} {a b : Expr} {p pos p1 pos1 : Pos} {ta tb : TD}
theorem pd_tupleR (hc : X.calm = true) (hg : Gl X "tuple") (hm : X.mg "tuple" = none) (hg2 : Gl X "range") (hm2 : X.mg "range" = none) (ha : PD X a ta)
    (na : starEach [a] X.env = (false, eval a X.env) :: starEach [] X.env := by rfl)
    (nb : starEach [.Call (.Name "range" p1) [a] [] pos1] X.env = (false, eval (.Call (.Name "range" p1) [a] [] pos1) X.env) :: starEach [] X.env := by rfl) :
    PD X (.Call (.Name "tuple" p) [.Call (.Name "range" p1) [a] [] pos1] [] pos) (tdTupR ta) := by
  refine ⟨PE.weak (pe_tupRg hc hg hm (prg_1 hg2 hm2 ha.pe na) nb) fun σ H Q ⟨B, H0, G0, δ, G, R, q⟩ => ?_, fun δ Q Q' q w => ha.mono _ _ _ q fun r δ1 q => ?_⟩
  · refine ⟨B, H0, G0, δ, G, R, ha.mono _ _ _ q fun r δ1 q v H1 G1 R1 s1 f1 ok => ?_⟩
    split at q
    · rename_i n
      cases ok.1
      refine ⟨n, rfl, q.1, fun l hl => ?_⟩
      have hz := q.1.2.2.2.2
      have e0 : rgV 0 n = (List.range n.toNat).map fun i => V.int (0 + (i : Nat)) := by
        unfold rgV
        rw [Int.sub_zero]
      have gp := R1.sub.free hl
      have sG : Same G1 (upd G1 l (.tup (rgV 0 n))) := fun b x e => by rw [upd_ne (ne_of_none e gp)]; exact e
      have hd : DdA X.K (upd G1 l (.tup (rgV 0 n))) (rgV 0 n) (zs 0 n.toNat) := by rw [e0]; exact zs_vals _ _
      have z : (rgV 0 n).length ≤ sizeLine := by rw [rgV_length, sizeLine_eq]; omega
      exact aft_laid R1 hl z (.tup (.inl (.inl upd_same)) hd) (aft_step s1 f1 _ _ q.2)
    · exact q.elim
  · split at q
    · exact ⟨q.1, w _ _ q.2⟩
    · exact q
theorem pds_parO {i j : Nat} {x y : Str} {px py pt : Pos} {kt k2 pt2} (ha : PD X a ta) (hb : PD X b tb) (hg : PG X (.Tuple [.Name x px, .Name y py] kt pt) (gTup X.K 2 (gNames [i, j])))
    (hs : swapsWithSole [.Tuple [.Name x px, .Name y py] kt pt] (.Tuple [a, b] k2 pt2) pos.line X.env = pure false := by rfl) (hw : swappedStores [.Tuple [.Name x px, .Name y py] kt pt] (.Tuple [a, b] k2 pt2) X.env = pure none := by rfl)
    (h0 : (assignEach [.Tuple [.Name x px, .Name y py] kt pt] X.env).map (·.2) = [assign (.Tuple [.Name x px, .Name y py] kt pt) X.env] := by rfl)
    (h1 : starEach [a, b] X.env = (false, eval a X.env) :: starEach [b] X.env := by rfl) (h2 : starEach [b] X.env = (false, eval b X.env) :: starEach [] X.env := by rfl) :
    PDS X (.Assign [.Tuple [.Name x px, .Name y py] kt pt] (.Tuple [a, b] k2 pt2) pos) (tdPar2 i j ta tb) := by
  refine ⟨PS.weak (ps_asg (pe_tup (pa_cons ha.pe (pa_cons hb.pe pa_nil h2) h1)) hg hs hw h0) fun D σ H ⟨B, H0, G0, δ, G, R, q⟩ => ⟨B, H0, G0, δ, G, R, ha.mono _ _ _ q fun r δ1 q v H1 G1 R1 s1 f1 ok => ?_⟩, fun D D' δ w q => ha.mono _ _ _ q fun r δ1 q => ?_⟩
  · cases ea : az r with
    | none => rw [ea] at q; exact q.elim
    | some r' =>
      rw [ea] at q
      obtain ⟨G2, R2, s2, hA⟩ := freezeA R1 ok ea
      refine ⟨B, H0, G0, δ1, G2, R2, hb.mono _ _ _ q fun s δ2 q w H3 G3 R3 s3 f3 ok3 => ⟨by show 2 ≤ sizeLine; decide, fun p hp => ⟨p, [v, w], rfl, SqT.of upd_same, rfl, v, [w], rfl, w, [], rfl, rfl, q _ _ G3 ?_⟩⟩⟩
      have up : ∀ s, ValOk X.K B H3 G3 w s → ValOk X.K B (upd H3 p (.tup [v, w])) G3 w s := fun s h => by
        cases s <;> first | exact h | (obtain ⟨a, e, g, z⟩ := h; exact ⟨a, e, g, z.up (fun o q => by rw [upd_ne (ne_of_none q hp)]; exact q) (Same.refl _)⟩)
      refine ((R3.laidO (o := .tup [v, w]) hp (by show 2 ≤ sizeLine; decide)).assign (resOk_arg (hA.mono s3)) i).assign ⟨up _ ok3.1, ok3.2.1, fun io a e => ?_⟩ j
      obtain ⟨z1, z2, z3⟩ := ok3.2.2 io a e
      refine ⟨z1, z2, fun k ⟨e1, t, e2, it⟩ => ?_⟩
      rcases getSet e2 with ⟨y1, y2, y3⟩ | ⟨y1, y2⟩ | ⟨_, _, y⟩
      · rw [y3, az_own ea] at it; cases it
      · rw [List.getElem?_set_ne y1] at e1
        exact z3 k ⟨e1, t, y2, it⟩
      · exact y.elim
  · cases ea : az r with
    | none => rw [ea] at q; exact q
    | some r' => rw [ea] at q; exact hb.mono _ _ _ q fun s δ2 q => w.nx _ q
end
end DL

set_option Elab.async false
set_option linter.all false
set_option maxRecDepth 100000
set_option maxHeartbeats 4000000
/-! DML: x or y, x None or a number. -/
namespace DL
open PySem PySem.Spec PyProof.Rows L2
def tdOrN (ta tb : TD) : TD := fun δ Q => ta δ fun r δ' => match r with
  | .dt .non => tb δ' Q
  | .dt (.int i) => if (i != 0) = true then Q (.dt (.int i)) δ' else tb δ' Q
  | _ => False
section
variable {X : Cx} {a b : Expr} {rest : List Expr} {pos : Pos} {ta tb : TD}
theorem pd_orN (h : PD X a ta) (k : PD X (.BoolOp .Or (b :: rest) pos) tb) : PD X (.BoolOp .Or (a :: b :: rest) pos) (tdOrN ta tb) := by
  refine ⟨PE.weak (pe_orT h.pe k.pe) fun σ H Q ⟨B, H0, G0, δ, G, R, q⟩ => ⟨B, H0, G0, δ, G, R, h.mono _ _ _ q fun r δ' q v H' G' R' s' f' ok => ?_⟩, fun δ Q Q' q w => h.mono _ _ _ q fun r δ' q => ?_⟩
  · split at q
    · cases ok.1
      exact ⟨false, rfl, ⟨B, H0, G0, δ', G', R', k.mono _ _ _ q (aft_step s' f')⟩⟩
    · rename_i i
      cases ok.1
      refine ⟨i != 0, rfl, ?_⟩
      cases e : (i != 0) with
      | false =>
        rw [e] at q
        exact ⟨B, H0, G0, δ', G', R', k.mono _ _ _ q (aft_step s' f')⟩
      | true =>
        rw [e] at q
        exact q _ _ _ R' s' f' (resOk_dt (.int _))
    · exact q.elim
  · split at q
    · exact k.mono _ _ _ q w
    · rename_i i
      cases e : (i != 0) with
      | false => rw [e] at q; exact k.mono _ _ _ q w
      | true => rw [e] at q; exact w _ _ q
    · exact q
end
end DL

set_option Elab.async false
set_option linter.all false
set_option maxRecDepth 100000
set_option maxHeartbeats 4000000
/-! DMN: zip of a tuple and a list. -/
namespace DL
open PySem PySem.Spec PyProof.Rows L2
/-! ### at the library's level -/
abbrev mzA (h : Heap) (a : Addr) : Heap := h.push { cls := .type "tuple_iterator", data := .fields #[.ref a, .int 0 0] }
abbrev mzB (h : Heap) (a b : Addr) : Heap := (mzA h a).push { cls := .type "list_iterator", data := .fields #[.ref b, .int 0 0] }
abbrev mzC (h : Heap) (a b : Addr) : Heap := (mzB h a b).push { cls := .type "tuple", data := .seq #[.ref h.objs.size, .ref (mzA h a).objs.size] }
abbrev mzD (h : Heap) (a b : Addr) : Heap := (mzC h a b).push { cls := .type "tuple", data := .seq #[.none, .none] }
abbrev mzE (h : Heap) (a b : Addr) : Heap := (mzD h a b).push { cls := .type "zip", data := .fields #[.none, .bool false, .bool false, .ref (mzB h a b).objs.size, .ref (mzC h a b).objs.size] }
theorem meets_zipM (a b : Addr) (xs ys : Array Value) :
    Meets (Builtin.«zip.__new__» ⟨[.type "zip", .ref a, .ref b], []⟩) (fun _ R s => s.heap.IsTuple a xs ∧ s.heap.IsList b ys ∧
      R (.ok (.ret (.ref (mzD s.heap a b).objs.size))) { s with heap := mzE s.heap a b }) :=
  .of_wp fun prog w A R s h => by
    obtain ⟨hp, gs, dr, tk, os⟩ := s; obtain ⟨ha, hb, h⟩ := h
    have sub := sub_zip
    have H1 : Heap.IsTuple (Shared.heap ⟨hp, gs, dr, tk, os⟩) a xs := ha
    have H2 : Heap.IsList (Shared.heap ⟨hp.push { cls := .type "tuple_iterator", data := .fields #[.ref a, .int 0 0] }, gs, dr, tk, os⟩) b ys := Heap.IsList.push hb _
    wp_walk using wpAny_pyIter_tuple H1, wpAny_pyIter_list H2
    exact ⟨_, rfl, h⟩
section
variable {prog : Program} {w : World} {A : Around} {E : Value → Shared → Prop} {s : Shared}
theorem call_zipM {a b : Addr} {xs ys : Array Value} {Q : Value → Shared → Prop} (ha : s.heap.IsTuple a xs) (hb : s.heap.IsList b ys)
    (h : ∀ h', IsZip h' (s.heap.objs.size + 4) (s.heap.objs.size + 2) (s.heap.objs.size + 3) .none → IsTupOf2 h' (s.heap.objs.size + 2) (.ref s.heap.objs.size) (.ref (s.heap.objs.size + 1)) →
      IsTupOf2 h' (s.heap.objs.size + 3) .none .none → h'.IsTupleIter s.heap.objs.size a 0 → h'.IsListIter (s.heap.objs.size + 1) b 0 →
      (∀ c o, s.heap.get? c = some o → h'.get? c = some o) → Q (.ref (s.heap.objs.size + 4)) { s with heap := h' }) :
    wpAny (model prog w) A (call (.type "zip") [.ref a, .ref b]) Q E s := by
  refine callType_new F.called_zip (by decide) (F.typeCall_zip_2 _ _) (F.newCall_zip_2 _ _) (fun o => F.args_object_init_3 o _ _) F.entry_zip_new (meets_zipM a b xs ys) ⟨ha, hb, ?_⟩
  have s1 : (mzA s.heap a).objs.size = s.heap.objs.size + 1 := Heap.size_push ..
  have s2 : (mzB s.heap a b).objs.size = s.heap.objs.size + 2 := by rw [Heap.size_push, s1]
  have s3 : (mzC s.heap a b).objs.size = s.heap.objs.size + 3 := by rw [Heap.size_push, s2]
  have s4 : (mzD s.heap a b).objs.size = s.heap.objs.size + 4 := by rw [Heap.size_push, s3]
  have p1 : ∀ {h : Heap} {c : Addr} {o x : Obj}, h.get? c = some x → (h.push o).get? c = some x := fun e => Heap.get?_push_of_some _ e
  have g5 : (mzE s.heap a b).get? (mzD s.heap a b).objs.size = some _ := Heap.get?_push_size _ rfl
  have g4 : (mzE s.heap a b).get? (mzC s.heap a b).objs.size = some _ := p1 (Heap.get?_push_size _ rfl)
  have g3 : (mzE s.heap a b).get? (mzB s.heap a b).objs.size = some _ := p1 (p1 (Heap.get?_push_size _ rfl))
  have g2 : (mzE s.heap a b).get? (mzA s.heap a).objs.size = some _ := p1 (p1 (p1 (Heap.get?_push_size _ rfl)))
  have g1 : (mzE s.heap a b).get? s.heap.objs.size = some _ := p1 (p1 (p1 (p1 (Heap.get?_push_size _ rfl))))
  show _ ∧ _
  rw [s2, s3, s4] at g5
  rw [s1, s2] at g3
  rw [s3] at g4
  rw [s1] at g2
  rw [s4]
  exact ⟨⟨_, g5, rfl⟩, h _ g5 g3 g4 ⟨_, g1, rfl, rfl⟩ ⟨_, g2, rfl, rfl⟩ fun c o x => p1 (p1 (p1 (p1 (p1 x))))⟩
theorem sep_of {z TI TO i1 i2 a b : Addr} (D : ZipApart z TI TO i1 i2 a b) : ZipSep2 z TI TO i1 i2 [i1, a] [i2, b] where
  TIz := D.TIz
  TOz := D.TOz
  TITO := D.TITO
  TIi1 := D.TIi1
  mem1 := List.mem_cons_self
  zf1 := fun h => by
    simp only [List.mem_cons, List.not_mem_nil, or_false] at h
    rcases h with h | h
    · exact D.i1z h.symm
    · exact D.l1z h.symm
  Tf1 := fun h => by
    simp only [List.mem_cons, List.not_mem_nil, or_false] at h
    rcases h with h | h
    · exact D.TOi1 h
    · exact D.l1TO h.symm
  TIi2 := D.TIi2
  mem2 := List.mem_cons_self
  zf2 := fun h => by
    simp only [List.mem_cons, List.not_mem_nil, or_false] at h
    rcases h with h | h
    · exact D.i2z h.symm
    · exact D.l2z h.symm
  Tf2 := fun h => by
    simp only [List.mem_cons, List.not_mem_nil, or_false] at h
    rcases h with h | h
    · exact D.TOi2 h
    · exact D.l2TO h.symm
  sep1_2 := fun h => by
    simp only [List.mem_cons, List.not_mem_nil, or_false] at h
    rcases h with h | h
    · exact D.i12 h
    · exact D.l2i1 h.symm
  sep2_1 := fun h => by
    simp only [List.mem_cons, List.not_mem_nil, or_false] at h
    rcases h with h | h
    · exact D.i12 h.symm
    · exact D.l1i2 h.symm
end
/-! ### what is walked -/
def ItzM (K : PySem.W.Frag) (a b : Addr) : It :=
  ⟨fun i H => ∃ (xs ys : List V) (x y : V), SqT K H a xs ∧ SqL K H b ys ∧ xs[i]? = some x ∧ ys[i]? = some y,
    fun i H v H' => ∃ T x y, v = .ref T ∧ H T = none ∧ H' = upd H T (.tup [x, y]) ∧ (∀ xs, SqT K H a xs → xs[i]? = some x) ∧ ∀ ys, SqL K H b ys → ys[i]? = some y,
    fun i H => ∃ xs ys : List V, SqT K H a xs ∧ SqL K H b ys ∧ i = min xs.length ys.length⟩
theorem five {z TI TO i1 i2 c : Addr} (h : c ∈ [z, TI, TO, i1, i2]) : c = z ∨ c = TI ∨ c = TO ∨ c = i1 ∨ c = i2 := by simpa using h
theorem turn_zipM {P : Program} {w : World} {K : PySem.W.Frag} {elts : List Expr} {kk : Nat} {tpos : Pos} {a b z TI TO i1 i2 : Addr} (D : ZipApart z TI TO i1 i2 a b) :
    Turn P w K (.Tuple elts kk tpos) (ItzM K a b) [z, TI, TO, i1, i2] z (fun i h => IsZip h z TI TO .none ∧ IsTupOf2 h TI (.ref i1) (.ref i2) ∧ (∃ x y, IsTupOf2 h TO x y) ∧ h.IsTupleIter i1 a i ∧ h.IsListIter i2 b i) where
  mem := by simp
  obj := fun i h st c hc => by
    obtain ⟨hz, hI, ⟨x, y, hO⟩, ⟨o1, e1, _, d1⟩, ⟨o2, e2, _, d2⟩⟩ := st
    rcases five hc with rfl | rfl | rfl | rfl | rfl
    · exact ⟨_, hz, fun v q => nomatch q⟩
    · exact ⟨_, hI, fun v q => nomatch q⟩
    · exact ⟨_, hO, fun v q => nomatch q⟩
    · exact ⟨o1, e1, fun v q => by rw [d1] at q; cases q⟩
    · exact ⟨o2, e2, fun v q => by rw [d2] at q; cases q⟩
  keep := fun i h h' st k => by
    obtain ⟨hz, hI, ⟨x, y, hO⟩, h1, h2⟩ := st
    exact ⟨k z (by simp) _ hz, k TI (by simp) _ hI, ⟨x, y, k TO (by simp) _ hO⟩, h1.at fun o q => k i1 (by simp) o q, h2.at fun o q => k i2 (by simp) o q⟩
  item := by
    intro X hP hw hK hc i pins s σ H E I hf st hg
    subst hP hw hK
    obtain ⟨hz, hI, ⟨x0, y0, hO⟩, h1, h2⟩ := st
    obtain ⟨xs, ys, x, y, qx, qy, ex, ey⟩ := hg
    obtain ⟨is1, r1, p1, _⟩ := I.tuple qx
    obtain ⟨is2, r2, p2, _⟩ := I.list qy
    obtain ⟨u, hu, ru⟩ := r1.get ex
    obtain ⟨v, hv, rv⟩ := r2.get ey
    have hh : X.A.in1.handled = none := I.ok.hd hc
    have n1 : i < is1.toArray.size := by
      have := (List.getElem?_eq_some_iff.mp hu).1
      simpa using this
    have n2 : i < is2.toArray.size := by
      have := (List.getElem?_eq_some_iff.mp hv).1
      simpa using this
    have zl : z < s.heap.objs.size := Heap.lt_size hz
    refine wpAny_pyNext_zipD2_item (sep_of D) (Draws.tuple hh i1 a D.l1i1 is1.toArray) (Draws.list hh i2 b D.l2i2 is2.toArray) hz hI hO ⟨h1, show s.heap.IsTuple a is1.toArray from p1⟩ ⟨h2, p2.isList⟩ n1 n2 fun y1 y2 h' tk e1 e2 hz' hO' st1 st2 hT hsz hk => ?_
    have e1 : y1 = u := by
      have z := hu.symm.trans (by simpa using e1)
      exact (Option.some.inj z).symm
    have e2 : y2 = v := by
      have z := hv.symm.trans (by simpa using e2)
      exact (Option.some.inj z).symm
    subst e1; subst e2
    refine ⟨_, rfl, wpAny_letOwnedTupleGo_zip (s := { s with heap := h', toks := tk }) hz' fun h2' hz2 sb => ?_⟩
    have hT2 : h2'.get? s.heap.objs.size = some { cls := .type "tuple", data := .seq #[y1, y2] } := (sb.2 _ (Nat.ne_of_gt zl)).trans hT
    have new : ObjOk X.prog X.w (upd H s.heap.objs.size (.tup [x, y])) h2' s.heap.objs.size (.tup [x, y]) :=
      ⟨by show 2 ≤ sizeLine; decide, [y1, y2], .cons ru (.cons rv .nil), ⟨_, hT2, rfl, _, rfl⟩⟩
    have I1 : Inv X pins σ (upd H s.heap.objs.size (.tup [x, y])) { s with heap := h2', toks := tk } :=
      I.turnedNew (t' := tk) (ch := [z, TI, TO, i1, i2]) (fun c o hb q => (sb.2 c (fun q' => hb (by simp [q']))).trans (hk c o (fun q' => hb (by simp [q'])) (fun q' => hb (by simp [q'])) (fun q' => hb (by simp [q'])) (fun q' => hb (by simp [q'])) q)) hf (Nat.le_refl _) new
    refine ⟨.ref s.heap.objs.size, _, I1, rfl, ⟨_, x, y, rfl, I.hok.fresh (Nat.le_refl _), rfl, fun l hl => by rw [I.tuple_inj hl qx]; exact ex, fun l hl => by rw [I.list_inj hl qy]; exact ey⟩, ⟨hz2, ?_, ⟨y1, y2, ?_⟩, ?_, ?_⟩, fun c hcm => ?_⟩
    · exact (sb.2 _ D.TIz).trans (hk _ _ D.TIz D.TITO D.TIi1 D.TIi2 hI)
    · exact (sb.2 _ D.TOz).trans hO'
    · exact st1.1.at fun o q => (sb.2 _ D.i1z).trans q
    · exact st2.1.at fun o q => (sb.2 _ D.i2z).trans q
    · have hlt : c < s.heap.objs.size := by
        rcases five hcm with rfl | rfl | rfl | rfl | rfl
        · exact zl
        · exact Heap.lt_size hI
        · exact Heap.lt_size hO
        · obtain ⟨_, e1, _⟩ := h1; exact Heap.lt_size e1
        · obtain ⟨_, e2, _⟩ := h2; exact Heap.lt_size e2
      rw [upd_ne (Nat.ne_of_lt hlt)]
      exact (hf c hcm).1
  done := by
    intro X hP hw hK hc i pins s σ H E I hf st hg
    subst hP hw hK
    obtain ⟨hz, hI, ⟨x0, y0, hO⟩, h1, h2⟩ := st
    obtain ⟨xs, ys, qx, qy, hend⟩ := hg
    obtain ⟨is1, r1, p1, _⟩ := I.tuple qx
    obtain ⟨is2, r2, p2, _⟩ := I.list qy
    have l1 := r1.length
    have l2 := r2.length
    have s1 : is1.toArray.size = xs.length := by simp only [List.size_toArray]; omega
    have s2 : is2.toArray.size = ys.length := by simp only [List.size_toArray]; omega
    have hh : X.A.in1.handled = none := I.ok.hd hc
    exact wpAny_pyNext_zipD2_end (sep_of D) (Draws.tuple hh i1 a D.l1i1 is1.toArray) (Draws.list hh i2 b D.l2i2 is2.toArray) hz hI hO ⟨h1, show s.heap.IsTuple a is1.toArray from p1⟩ ⟨h2, p2.isList⟩ (by omega) (by omega) (by omega) fun h' tk hk => ⟨rfl, I.turnedL (t' := tk) (ch := [z, TI, TO, i1, i2]) (fun c o hb q =>
      hk c o (fun q' => hb (by simp [q'])) (fun q' => hb (by simp [q'])) (fun q' => hb (by simp [q'])) (fun q' => hb (by simp [q'])) q) hf⟩
  self := fun A i s Q E st h => wpAny_pyIter_zip st.1 h
def iZipX (K : PySem.W.Frag) (ta : TA) : TI := fun σ H R => ta σ H fun vs H1 => ∃ a b xs ys, vs = [.ref a, .ref b] ∧ SqT K H1 a xs ∧ (SqL K H1 b ys ∧ R (ItzM K a b) H1 ∨ SqT K H1 b ys ∧ R (RZ.ItzT K a b) H1)
theorem pi_zipX {X : Cx} {e e2 : Expr} {ta : TA} {p pos tpos : Pos} {elts : List Expr} {kk : Nat} (hg : Gl X "zip") (hm : X.mg "zip" = none) (ha : PA X [e, e2] ta)
    (hs : starEach [e, e2] X.env = (false, eval e X.env) :: starEach [e2] X.env := by rfl) (hpl : (backTo pos (starEach [e2] X.env)).any (·.1) = false := by rfl) :
    PI X (.Tuple elts kk tpos) (.Call (.Name "zip" p) [e, e2] [] pos) (iZipX X.K ta) := by
  refine ⟨fun pins s σ H R I h => Call_ (ld_blt I hg hm PyProof.Rows.boot_zip (PyProof.Rows.callWith_type1 (thn (ha.run pos pins s σ H _ I h) fun us s1 ⟨vs, H1, I1, r1, q1⟩ => ?_) hs hpl))⟩
  obtain ⟨a, b, xs, ys, rfl, qx, q⟩ := q1
  cases r1 with
  | cons r rr =>
    cases rr with
    | cons r' rr =>
      cases rr; cases r; cases r'
      obtain ⟨is1, v1, p1, _⟩ := I1.tuple qx
      have la : a < s1.heap.objs.size := by obtain ⟨o, e, _⟩ := id p1; exact Heap.lt_size e
      have fp : ∀ c, c ∈ [s1.heap.objs.size + 4, s1.heap.objs.size + 2, s1.heap.objs.size + 3, s1.heap.objs.size, s1.heap.objs.size + 1] → FpOk X pins H1 c := fun c hc => by
        have le : s1.heap.objs.size ≤ c := by
          rcases five hc with e | e | e | e | e <;> rw [e] <;> first | exact Nat.le_add_right _ _ | exact Nat.le_refl _
        exact I1.fpOk le (I1.hok.fresh le)
      rcases q with ⟨qy, q⟩ | ⟨qy, q⟩
      · obtain ⟨is2, v2, p2, _⟩ := I1.list qy
        refine call_zipM (show s1.heap.IsTuple a is1.toArray from p1) p2.isList fun h' hz hI hO h1 h2 hk => wpAny_pyIter_zip hz ?_
        have I2 : Inv X pins σ H1 { s1 with heap := h' } := I1.kept (t' := s1.toks) hk
        exact ⟨s1.heap.objs.size + 4, _, _, _, H1, rfl, I2, turn_zipM (PySem.W.ktu_apart s1.heap.objs.size a b la p2.lt), ⟨hz, hI, ⟨_, _, hO⟩, h1, h2⟩, fp, q⟩
      · obtain ⟨is2, v2, p2, _⟩ := I1.tuple qy
        have lb : b < s1.heap.objs.size := by obtain ⟨o, e, _⟩ := id p2; exact Heap.lt_size e
        refine RZ.call_zipT (show s1.heap.IsTuple a is1.toArray from p1) (show s1.heap.IsTuple b is2.toArray from p2) fun h' hz hI hO h1 h2 _ hk => wpAny_pyIter_zip hz ?_
        have I2 : Inv X pins σ H1 { s1 with heap := h' } := I1.kept (t' := s1.toks) hk
        exact ⟨s1.heap.objs.size + 4, _, _, _, H1, rfl, I2, RZ.turn_zipT (PySem.W.ktu_apart s1.heap.objs.size a b la lb), ⟨hz, hI, ⟨_, _, hO⟩, h1, h2⟩, fp, q⟩
/-! ### over data -/
theorem itOk_zipM {K : PySem.W.Frag} {G : Hp} {a b : Addr} {vs ws : List V} {xs ys : List D} (h1 : SqT K G a vs) (h2 : DdA K G vs xs) (h3 : G b = some (.lst ws)) (h4 : DdA K G ws ys) : ItOk K G (ItzM K a b) (zipD xs ys) := by
  intro B H0 G0 H σ δ G2 R sG
  have hq1 : SqT K H a vs := sameT R.sub (sameT sG h1)
  have hq2 : SqL K H b ws := SqL.of (R.sub _ _ (sG _ _ h3))
  refine ⟨fun i d e => ?_, ⟨vs, ws, hq1, hq2, ?_⟩⟩
  · obtain ⟨x0, y0, e1, e2, rfl⟩ := zipD_get xs ys i d e
    obtain ⟨v, ev, hv⟩ := h2.get e1
    obtain ⟨w, ew, hw⟩ := h4.get e2
    refine ⟨⟨vs, ws, v, w, hq1, hq2, ev, ew⟩, fun x H3 y => ?_⟩
    obtain ⟨T, x1, y1, rfl, nT, rfl, z1, z2⟩ := y
    have e3 := z1 vs hq1
    have e4 := z2 ws hq2
    rw [ev] at e3; cases e3
    rw [ew] at e4; cases e4
    obtain ⟨R3, s3⟩ := R.laidG (o := .tup [v, w]) nT (by show (2 : Nat) ≤ sizeLine; decide)
    exact ⟨_, R3, s3, Fra.upd nT, .tup (.inl (.inl upd_same)) (.cons (Dd.mono (sG.trans s3) _ _ hv) (.cons (Dd.mono (sG.trans s3) _ _ hw) .nil))⟩
  · rw [zipD_len, h2.len, h4.len]
/-- zip of a tuple and of a list or a tuple -/
def tdZipX (t : TDA) : TDI := fun δ Q => t δ fun rs δ' => match rs with
  | [.dt (.tup xs), .dt (.lst ys)] => Q (zipD xs ys) δ'
  | [.dt (.tup xs), .dt (.tup ys)] => Q (zipD xs ys) δ'
  | _ => False
section
variable {X : Cx} {e e2 : Expr} {u : TDA} {p pos tpos : Pos}
theorem pdi_zipX {elts : List Expr} {kk : Nat} (hg : Gl X "zip") (hm : X.mg "zip" = none) (h : PDA X [e, e2] u) (hs : starEach [e, e2] X.env = (false, eval e X.env) :: starEach [e2] X.env := by rfl) (hpl : (backTo pos (starEach [e2] X.env)).any (·.1) = false := by rfl) :
    PDI X (.Tuple elts kk tpos) (.Call (.Name "zip" p) [e, e2] [] pos) (tdZipX u) := by
  refine ⟨PI.weak (pi_zipX hg hm h.pa hs hpl) fun σ H Rr ⟨B, H0, G0, δ, G, R, q⟩ => ⟨B, H0, G0, δ, G, R, h.mono _ _ _ q fun rs δ1 q vs H1 G1 R1 s1 f1 oks => ?_⟩, fun δ Q Q' q w => h.mono _ _ _ q fun r δ' q => ?_⟩
  · split at q
    · obtain ⟨v, w, rfl, hd, hd2⟩ := arg2 oks
      cases hd with
      | tup g1 g2 =>
        cases hd2 with
        | lst g3 g4 => exact ⟨_, _, _, _, rfl, sameT R1.sub g1, .inl ⟨SqL.of (R1.sub _ _ g3), q _ _ _ R1 s1 f1 (itOk_zipM g1 g2 g3 g4)⟩⟩
    · obtain ⟨v, w, rfl, hd, hd2⟩ := arg2 oks
      cases hd with
      | tup g1 g2 =>
        cases hd2 with
        | tup g3 g4 => exact ⟨_, _, _, _, rfl, sameT R1.sub g1, .inr ⟨sameT R1.sub g3, q _ _ _ R1 s1 f1 (itOk_zipT g1 g2 g3 g4)⟩⟩
    · exact q.elim
  · split at q
    · exact w _ _ q
    · exact w _ _ q
    · exact q
end
/-- a class by a lesser promise -/
theorem InitX.imp {P : Program} {w : World} {K : PySem.W.Frag} {mg : Str → Option Value} {base : Heap} {k n : Nat} {C : Addr} {x : Str} {t t' : TFI} (M : InitX P w K mg base k C x n t)
    (mt : ∀ rs (Q Q' : List Str → List D → Prop), t' rs Q → (∀ ns ds, Q ns ds → Q' ns ds) → t' rs Q') (ln : ∀ rs Q, t' rs Q → rs.length = n) (h : ∀ rs Q, t' rs Q → t rs Q) : InitX P w K mg base k C x n t' := by
  obtain ⟨f, fd, ps, F, m, e, b⟩ := M.ex
  refine ⟨⟨f, fd, ps, F.imp fun vs H Q E z => ?_, m, e, b⟩, mt, ln⟩
  obtain ⟨x, vs', B, G, dx, rs, a1, a2, a3, a4, a5, a6, a7, a8, a9, z⟩ := z
  exact ⟨x, vs', B, G, dx, rs, a1, a2, a3, a4, a5, a6, a7, a8, a9, h _ _ z⟩
end DL

set_option Elab.async false
set_option linter.all false
set_option maxRecDepth 100000
set_option maxHeartbeats 4000000
/-! DMO: a, b = x, [] where both are owned. -/
namespace DL
open PySem PySem.Spec PyProof.Rows L2
def tdParL (i j : Nat) (ta : TD) : TDS := fun D δ => ta δ fun r δ1 => D.nx ((δ1.set i r).set j (.ol []))
section
variable {X : Cx} {a : Expr} {pos lp : Pos} {ta : TD}
theorem ValOk.up {K : PySem.W.Frag} {B : Bg} {H H' G : Hp} {v : V} {s : Sl} (h : ValOk K B H G v s) (e : ∀ b o, H b = some o → H' b = some o) : ValOk K B H' G v s := by
  cases s <;> first | exact h | (obtain ⟨b, e1, g, z⟩ := h; exact ⟨b, e1, g, z.up (fun o q => e b o q) (Same.refl _)⟩)
theorem pds_parL {i j : Nat} {x y : Str} {px py pt : Pos} {kt k2 pt2} (hc : X.calm = true) (hN : X.N.Nodup) (hi : X.N[i]? = some x) (hj : X.N[j]? = some y) (hij : i ≠ j)
    (hx : X.env.scope.names.lookup x = some .local) (hy : X.env.scope.names.lookup y = some .local) (ha : PD X a ta)
    (hw : swappedStores [.Tuple [.Name x px, .Name y py] kt pt] (.Tuple [a, .List [] lp] k2 pt2) X.env = pure (some [x, y]))
    (hs : swapsWithSole [.Tuple [.Name x px, .Name y py] kt pt] (.Tuple [a, .List [] lp] k2 pt2) pos.line X.env = pure false := by rfl)
    (h1 : starEach [a, .List [] lp] X.env = (false, eval a X.env) :: starEach [.List [] lp] X.env := by rfl) (h2 : starEach [.List [] lp] X.env = (false, eval (.List [] lp) X.env) :: starEach [] X.env := by rfl) :
    PDS X (.Assign [.Tuple [.Name x px, .Name y py] kt pt] (.Tuple [a, .List [] lp] k2 pt2) pos) (tdParL i j ta) := by
  refine ⟨PS.weak (ps_par hc hN hi hj hij hx hy (pa_cons ha.pe (pa_cons (pe_lst pa_nil) pa_nil h2) h1) hw hs) fun D σ H ⟨B, H0, G0, δ, G, R, q⟩ => ⟨B, H0, G0, δ, G, R, ha.mono _ _ _ q fun r δ1 q v H1 G1 R1 s1 f1 ok => ?_⟩, fun D D' δ w q => ha.mono _ _ _ q fun r δ1 q => w.nx _ q⟩
  refine ⟨Nat.zero_le _, fun p hp => ⟨v, .ref p, rfl, q _ _ G1 ?_⟩⟩
  have keep : ∀ b o, H1 b = some o → upd H1 p (.lst []) b = some o := fun b o e => by rw [upd_ne (ne_of_none e hp)]; exact e
  obtain ⟨n1, n2, n3⟩ := R1.newOwn hp
  have vp : ValOk X.K B (upd H1 p (.lst [])) G1 (.ref p) (.ol []) := ⟨p, rfl, R1.sub.free hp, [], upd_same, .nil⟩
  refine ((R1.laidO (o := .lst []) hp (by show 0 ≤ sizeLine; exact Nat.zero_le _)).assign ⟨ok.1.up keep, ok.2.1, ok.2.2⟩ i).assign ⟨vp, (fun z => by cases z), fun _ b e => ?_⟩ j
  cases e
  refine ⟨n1, n2, fun k ⟨e1, t, e2, it⟩ => ?_⟩
  rcases getSet e2 with ⟨y1, y2, y3⟩ | ⟨y1, y2⟩ | ⟨_, _, y⟩
  · subst y1; subst y3
    rw [List.getElem?_set_self (by rw [R1.len]; exact y2)] at e1
    cases e1
    have z := ok.1
    cases t <;> first | cases it | skip
    all_goals
      obtain ⟨b, e, _, h⟩ := z
      cases e
      obtain ⟨o, ho⟩ := h.there
      rw [hp] at ho; cases ho
  · rw [List.getElem?_set_ne y1] at e1
    exact n3 k ⟨e1, t, y2, it⟩
  · exact y.elim
end
end DL

set_option Elab.async false
set_option linter.all false
set_option maxRecDepth 100000
set_option maxHeartbeats 4000000
namespace K31
open PySem PySem.Spec PyProof.Rows L2 DL
def topS (i : Nat) : Stmt := PySem.Challenge.pw_longsheet_k31_webs_of_sheets.main.body.getD i (.Pass ⟨0, 0, 0, 0⟩)
abbrev s__wall : Stmt := topS 0
theorem sc__wall : FnScope ["k"] ["k"] (defScope s__wall) := ⟨rfl, rfl, rfl, by decide +kernel, rfl, by decide +kernel, by decide +kernel⟩
abbrev s_is_integer : Stmt := topS 8
theorem sc_is_integer : FnScope ["thing"] ["thing"] (defScope s_is_integer) := ⟨rfl, rfl, rfl, by decide +kernel, rfl, by decide +kernel, by decide +kernel⟩
abbrev s_is_number : Stmt := topS 9
theorem sc_is_number : FnScope ["thing"] ["thing"] (defScope s_is_number) := ⟨rfl, rfl, rfl, by decide +kernel, rfl, by decide +kernel, by decide +kernel⟩
abbrev s_is_column_part : Stmt := topS 11
theorem sc_is_column_part : FnScope ["thing"] ["thing"] (defScope s_is_column_part) := ⟨rfl, rfl, rfl, by decide +kernel, rfl, by decide +kernel, by decide +kernel⟩
abbrev s_is_row_part : Stmt := topS 12
theorem sc_is_row_part : FnScope ["thing"] ["thing"] (defScope s_is_row_part) := ⟨rfl, rfl, rfl, by decide +kernel, rfl, by decide +kernel, by decide +kernel⟩
abbrev s_is_name : Stmt := topS 13
theorem sc_is_name : FnScope ["thing"] ["thing"] (defScope s_is_name) := ⟨rfl, rfl, rfl, by decide +kernel, rfl, by decide +kernel, by decide +kernel⟩
abbrev s_is_limit : Stmt := topS 14
theorem sc_is_limit : FnScope ["thing"] ["thing"] (defScope s_is_limit) := ⟨rfl, rfl, rfl, by decide +kernel, rfl, by decide +kernel, by decide +kernel⟩
abbrev s_is_range : Stmt := topS 15
theorem sc_is_range : FnScope ["thing"] ["thing"] (defScope s_is_range) := ⟨rfl, rfl, rfl, by decide +kernel, rfl, by decide +kernel, by decide +kernel⟩
abbrev s_column_of : Stmt := topS 16
theorem sc_column_of : FnScope ["read", "column", "part"] ["read", "column"] (defScope s_column_of) := ⟨rfl, rfl, rfl, by decide +kernel, rfl, by decide +kernel, by decide +kernel⟩
abbrev s_are_formulas : Stmt := topS 21
theorem sc_are_formulas : FnScope ["thing", "one"] ["thing"] (defScope s_are_formulas) := ⟨rfl, rfl, rfl, by decide +kernel, rfl, by decide +kernel, by decide +kernel⟩
abbrev s_is_long_formula : Stmt := topS 22
theorem sc_is_long_formula : FnScope ["thing"] ["thing"] (defScope s_is_long_formula) := ⟨rfl, rfl, rfl, by decide +kernel, rfl, by decide +kernel, by decide +kernel⟩
abbrev s_is_formula : Stmt := topS 23
theorem sc_is_formula : FnScope ["thing"] ["thing"] (defScope s_is_formula) := ⟨rfl, rfl, rfl, by decide +kernel, rfl, by decide +kernel, by decide +kernel⟩
abbrev s_parts : Stmt := topS 24
theorem sc_parts : FnScope ["formula"] ["formula"] (defScope s_parts) := ⟨rfl, rfl, rfl, by decide +kernel, rfl, by decide +kernel, by decide +kernel⟩
abbrev s_reads : Stmt := topS 25
theorem sc_reads : FnScope ["formula", "part", "read"] ["formula"] (defScope s_reads) := ⟨rfl, rfl, rfl, by decide +kernel, rfl, by decide +kernel, by decide +kernel⟩
abbrev s_read_fits : Stmt := topS 26
theorem sc_read_fits : FnScope ["read", "place", "word"] ["read", "place"] (defScope s_read_fits) := ⟨rfl, rfl, rfl, by decide +kernel, rfl, by decide +kernel, by decide +kernel⟩
abbrev s_has_input : Stmt := topS 27
theorem sc_has_input : FnScope ["formula", "part"] ["formula"] (defScope s_has_input) := ⟨rfl, rfl, rfl, by decide +kernel, rfl, by decide +kernel, by decide +kernel⟩
abbrev s_fits : Stmt := topS 28
theorem sc_fits : FnScope ["formula", "place", "read"] ["formula", "place"] (defScope s_fits) := ⟨rfl, rfl, rfl, by decide +kernel, rfl, by decide +kernel, by decide +kernel⟩
abbrev s_is_end : Stmt := topS 33
theorem sc_is_end : FnScope ["thing"] ["thing"] (defScope s_is_end) := ⟨rfl, rfl, rfl, by decide +kernel, rfl, by decide +kernel, by decide +kernel⟩
abbrev s_is_edge : Stmt := topS 34
theorem sc_is_edge : FnScope ["thing", "many", "here", "there", "low", "high", "column"] ["thing", "many"] (defScope s_is_edge) := ⟨rfl, rfl, rfl, by decide +kernel, rfl, by decide +kernel, by decide +kernel⟩
abbrev s_edge_key : Stmt := topS 35
theorem sc_edge_key : FnScope ["edge", "here", "there", "low", "high"] ["edge"] (defScope s_edge_key) := ⟨rfl, rfl, rfl, by decide +kernel, rfl, by decide +kernel, by decide +kernel⟩
abbrev s_minus : Stmt := topS 36
theorem sc_minus : FnScope ["end"] ["end"] (defScope s_minus) := ⟨rfl, rfl, rfl, by decide +kernel, rfl, by decide +kernel, by decide +kernel⟩
abbrev s_edge_of : Stmt := topS 38
theorem sc_edge_of : FnScope ["read", "here", "many", "there", "low", "high"] ["read", "here", "many"] (defScope s_edge_of) := ⟨rfl, rfl, rfl, by decide +kernel, rfl, by decide +kernel, by decide +kernel⟩
abbrev s_web_of : Stmt := topS 39
theorem sc_web_of : FnScope ["sheet", "many", "found", "here", "head", "body", "foot", "read", "edge"] ["sheet"] (defScope s_web_of) := ⟨rfl, rfl, rfl, by decide +kernel, rfl, by decide +kernel, by decide +kernel⟩
abbrev s_is_row_of_formulas : Stmt := topS 41
theorem sc_is_row_of_formulas : FnScope ["thing", "one"] ["thing"] (defScope s_is_row_of_formulas) := ⟨rfl, rfl, rfl, by decide +kernel, rfl, by decide +kernel, by decide +kernel⟩
abbrev s__law_bag : Stmt := topS 44
theorem sc__law_bag : FnScope ["_law_script", "_law_cell"] ["_law_script"] (defScope s__law_bag) := ⟨rfl, rfl, rfl, by decide +kernel, rfl, by decide +kernel, by decide +kernel⟩
abbrev s__law_take : Stmt := topS 45
theorem sc__law_take : FnScope ["_law_bag_here", "_law_many", "_law_cell", "_law_mixed", "_law_drawn", "_law_begin", "_law_second"] ["_law_bag_here", "_law_many"] (defScope s__law_take) := ⟨rfl, rfl, rfl, by decide +kernel, rfl, by decide +kernel, by decide +kernel⟩
abbrev s__law_one : Stmt := topS 46
theorem sc__law_one : FnScope ["_law_bag_here", "_law_some"] ["_law_bag_here", "_law_some"] (defScope s__law_one) := ⟨rfl, rfl, rfl, by decide +kernel, rfl, by decide +kernel, by decide +kernel⟩
abbrev s__law_alike : Stmt := topS 47
theorem sc__law_alike : FnScope ["_law_found", "_law_due"] ["_law_found", "_law_due"] (defScope s__law_alike) := ⟨rfl, rfl, rfl, by decide +kernel, rfl, by decide +kernel, by decide +kernel⟩
abbrev s__law_key : Stmt := topS 48
theorem sc__law_key : FnScope ["_law_edge", "_law_low", "_law_high"] ["_law_edge"] (defScope s__law_key) := ⟨rfl, rfl, rfl, by decide +kernel, rfl, by decide +kernel, by decide +kernel⟩
abbrev s__law_in_order : Stmt := topS 49
theorem sc__law_in_order : FnScope ["_law_edges", "_law_different", "_law_edge", "_law_found", "_law_key_here"] ["_law_edges"] (defScope s__law_in_order) := ⟨rfl, rfl, rfl, by decide +kernel, rfl, by decide +kernel, by decide +kernel⟩
abbrev s__law_read : Stmt := topS 50
theorem sc__law_read : FnScope ["_law_bag_here", "_law_many", "_law_here", "_law_part", "_law_there", "_law_low", "_law_high", "_law_empty", "_law_far", "_law_row"] ["_law_bag_here", "_law_many", "_law_here"] (defScope s__law_read) := ⟨rfl, rfl, rfl, by decide +kernel, rfl, by decide +kernel, by decide +kernel⟩
abbrev s__law_around : Stmt := topS 51
theorem sc__law_around : FnScope ["_law_bag_here", "_law_read_here", "_law_kind", "_law_other"] ["_law_bag_here", "_law_read_here"] (defScope s__law_around) := ⟨rfl, rfl, rfl, by decide +kernel, rfl, by decide +kernel, by decide +kernel⟩
abbrev s__law_body : Stmt := topS 52
theorem sc__law_body : FnScope ["_law_bag_here", "_law_many", "_law_here", "_law_most", "_law_terms", "_law_edges", "_law_k", "_law_read_here", "_law_edge", "_law_one_here", "_law_cut"] ["_law_bag_here", "_law_many", "_law_here", "_law_most"] (defScope s__law_body) := ⟨rfl, rfl, rfl, by decide +kernel, rfl, by decide +kernel, by decide +kernel⟩
abbrev s__law_head : Stmt := topS 53
theorem sc__law_head : FnScope ["_law_bag_here", "_law_many", "_law_far", "_law_some"] ["_law_bag_here", "_law_many"] (defScope s__law_head) := ⟨rfl, rfl, rfl, by decide +kernel, rfl, by decide +kernel, by decide +kernel⟩
abbrev s__law_foot : Stmt := topS 54
theorem sc__law_foot : FnScope ["_law_bag_here", "_law_many", "_law_part", "_law_some"] ["_law_bag_here", "_law_many"] (defScope s__law_foot) := ⟨rfl, rfl, rfl, by decide +kernel, rfl, by decide +kernel, by decide +kernel⟩
abbrev s_law : Stmt := topS 55
theorem sc_law : FnScope ["_law_script", "_law_bag_here", "_law_turn", "_law_many", "_law_columns", "_law_edges", "_law_here", "_law_body_here", "_law_some", "_law_sheet", "_law_due", "_law_again", "_law_web", "_law_column", "_law_bare", "_law_head_here", "_law_foot_here"] ["_law_script"] (defScope s_law) := ⟨rfl, rfl, rfl, by decide +kernel, rfl, by decide +kernel, by decide +kernel⟩
def clsBody : Stmt → List Stmt
  | .ClassDef _ _ _ b _ _ _ _ _ _ _ => b
  | _ => []
def clsS (i j : Nat) : Stmt := (clsBody (topS i)).getD j (.Pass ⟨0, 0, 0, 0⟩)
abbrev s_Sheet___init__ : Stmt := clsS 42 0
theorem sc_Sheet___init__ : FnScope ["self", "columns", "one", "at", "column", "place", "formula"] ["self", "columns"] (defScope s_Sheet___init__) := ⟨rfl, rfl, rfl, by decide +kernel, rfl, by decide +kernel, by decide +kernel⟩
abbrev s_Sheet_columns : Stmt := clsS 42 1
theorem sc_Sheet_columns : FnScope ["self"] ["self"] (defScope s_Sheet_columns) := ⟨rfl, rfl, rfl, by decide +kernel, rfl, by decide +kernel, by decide +kernel⟩
abbrev s_Sheet_has_column : Stmt := clsS 42 2
theorem sc_Sheet_has_column : FnScope ["self", "thing"] ["self", "thing"] (defScope s_Sheet_has_column) := ⟨rfl, rfl, rfl, by decide +kernel, rfl, by decide +kernel, by decide +kernel⟩
abbrev s_Sheet___len__ : Stmt := clsS 42 7
theorem sc_Sheet___len__ : FnScope ["self"] ["self"] (defScope s_Sheet___len__) := ⟨rfl, rfl, rfl, by decide +kernel, rfl, by decide +kernel, by decide +kernel⟩
abbrev s_Web___init__ : Stmt := clsS 37 0
theorem sc_Web___init__ : FnScope ["self", "many", "edges", "edge"] ["self", "many", "edges"] (defScope s_Web___init__) := ⟨rfl, rfl, rfl, by decide +kernel, rfl, by decide +kernel, by decide +kernel⟩
abbrev s_Web_edges : Stmt := clsS 37 1
theorem sc_Web_edges : FnScope ["self"] ["self"] (defScope s_Web_edges) := ⟨rfl, rfl, rfl, by decide +kernel, rfl, by decide +kernel, by decide +kernel⟩
abbrev s_Web___len__ : Stmt := clsS 37 3
theorem sc_Web___len__ : FnScope ["self"] ["self"] (defScope s_Web___len__) := ⟨rfl, rfl, rfl, by decide +kernel, rfl, by decide +kernel, by decide +kernel⟩
abbrev s_Web___eq__ : Stmt := clsS 37 4
theorem sc_Web___eq__ : FnScope ["self", "other"] ["self", "other"] (defScope s_Web___eq__) := ⟨rfl, rfl, rfl, by decide +kernel, rfl, by decide +kernel, by decide +kernel⟩
structure Tx (K : PySem.W.Frag) (mg : Str → Option Value) : Prop where
  b_TypeError : mg "TypeError" = none
  b_ValueError : mg "ValueError" = none
  b_abs : mg "abs" = none
  b_all : mg "all" = none
  b_any : mg "any" = none
  b_bool : mg "bool" = none
  b_enumerate : mg "enumerate" = none
  b_int : mg "int" = none
  b_isinstance : mg "isinstance" = none
  b_len : mg "len" = none
  b_list : mg "list" = none
  b_max : mg "max" = none
  b_min : mg "min" = none
  b_range : mg "range" = none
  b_repr : mg "repr" = none
  b_sorted : mg "sorted" = none
  b_str : mg "str" = none
  b_tuple : mg "tuple" = none
  b_zip : mg "zip" = none
  i_FAR : ∃ t, mg "FAR" = some (.int 1000000000000 t)
  i_MOST_COLUMNS : ∃ t, mg "MOST_COLUMNS" = some (.int 8 t)
  i_MOST_EDGES : ∃ t, mg "MOST_EDGES" = some (.int 48 t)
  i_FARTHEST : ∃ t, mg "FARTHEST" = some (.int 5 t)
  g_SIGNS : mg "SIGNS" = some (.ref (He.ga K "SIGNS"))
  t_SIGNS : ∀ G, SqT K G (He.ga K "SIGNS") [.str "<", .str "<=", .str "<>", .str "=", .str ">", .str ">="]
  g_PLACES : mg "PLACES" = some (.ref (He.ga K "PLACES"))
  t_PLACES : ∀ G, SqT K G (He.ga K "PLACES") [.str "head", .str "body", .str "foot"]
  g_OVER_RANGES : mg "OVER_RANGES" = some (.ref (He.ga K "OVER_RANGES"))
  t_OVER_RANGES : ∀ G, SqT K G (He.ga K "OVER_RANGES") [.str "low", .str "many", .str "top", .str "total"]
  k_Sheet : Cls K (He.ga K "Sheet")
  n_Sheet_its_columns : NoAttr K (He.ga K "Sheet") "its_columns"
  k_Web : Cls K (He.ga K "Web")
  n_Web_kept_columns : NoAttr K (He.ga K "Web") "kept_columns"
  n_Web_kept_edges : NoAttr K (He.ga K "Web") "kept_edges"
  sm : (K.lookup sysModules).isSome = true
  o_Sheet : OwnC K (He.ga K "Sheet")
  g_Sheet : mg "Sheet" = some (.ref (He.ga K "Sheet"))
  o_Web : OwnC K (He.ga K "Web")
  g_Web : mg "Web" = some (.ref (He.ga K "Web"))
/-! ### the law's own defs that all laws share -/
def Same2 (d e : D) : Prop := d = e ∧ SeqAt.shaped (py d) = true ∧ ShowOk d
section
variable {P : Program} {w : World} {K : PySem.W.Frag} {mg : Str → Option Value} {base : Heap}
abbrev CTake (P : Program) (w : World) (K : PySem.W.Frag) (mg : Str → Option Value) (base : Heap) : Prop := FnX P w K mg base 1 "_law_take" 2 tTake
abbrev COne (P : Program) (w : World) (K : PySem.W.Frag) (mg : Str → Option Value) (base : Heap) : Prop := FnX P w K mg base 2 "_law_one" 2 tOne
abbrev CAlike (P : Program) (w : World) (K : PySem.W.Frag) (mg : Str → Option Value) (base : Heap) : Prop := FnXG P w K mg base 1 "_law_alike" 2 (tf2 Same2 fun _ _ => .dt (.bl true))
theorem ok_bag (T : Tx K mg) {f : Addr} {fd : FuncData} (F : Fun K "_law_bag" "_law_bag" s__law_bag f fd) : FnOk P w K mg base CX0 1 f fd ["_law_script"] (spBag K) := by
  refine F.ok sc__law_bag (fun vs H Q E h => ?_) fun cdv A outer s H vs Q E hr want => ⟨t_bag K, ?_, pure_bag want⟩
  · obtain ⟨a, ns, rfl, _⟩ := h; rfl
  · exact pss_one (ps_ret (pe_lst (pa_cons pe_int (pa_cons pe_int (pa_cons pe_int (pa_cons
      (pe_lc (own := [("_law_cell", 1)]) (g := gName 1) (tt := tYes) rfl sc__law_bag.nd (pi_list (pe_slice sl_list (pv 0) po_none (po_some pe_int))) (blkOk_by (own := [("_law_cell", 1)]) (N := ["_law_script", "_law_cell"]) (sc := defScope s__law_bag) (by decide +kernel))
        (fun _ _ _ _ _ => pg_name (i := 1) sc__law_bag.nd rfl (Or.inl rfl)) (fun _ _ _ _ _ => pts_nil) (fun _ _ _ _ _ => pe_callB call_abs (by rfl) T.b_abs boot_abs' (pa_cons (pv 1) pa_nil))) pa_nil))))))
theorem ok_take (T : Tx K mg) (D0 : Dfn K mg "_law_take" s__law_take ["_law_bag_here", "_law_many"]) : CTake P w K mg base := by
  obtain ⟨f, fd, F, hm, hbd⟩ := D0.ex
  refine ⟨⟨f, fd, _, F.ok sc__law_take (fun vs H Q E h => h.1) fun cdv A outer s H vs Q E hr want => ⟨t_take K, ?_, pure_take want⟩, hm, F.kp, hbd⟩, mono_tTake, len_tTake⟩
  have I0 : ∀ {X : Cx} {e : Expr} {t : TE} {pos p : Pos} (hg : Gl X "int") (hmg : X.mg "int" = none) (h : PE X e t) (he : starEach [e] X.env = (false, eval e X.env) :: starEach [] X.env) (hpl : (backTo pos (starEach [] X.env)).any (·.1) = false), PE X (.Call (.Name "int" p) [e] [] pos) (tI1 t) :=
    fun hg hmg h he hpl => pe_callTy call_int1 hg hmg boot_int (pa_cons h pa_nil he) (by decide) (by decide) he hpl
  have nd := sc__law_take.nd
  exact pss_cons (ps_if (pt_cmpR op_eq (pe_ix ix_list (pv 0) pe_int (fun _ _ => rfl)) pe_int (nomark _))
      (pss_cons (ps_set (i := 2) nd rfl (.inl rfl) pe_int)
      (pss_cons (ps_if (pt_cmpR op_lt (pe_ix ix_list (pv 0) pe_int (fun _ _ => rfl)) (pe_callB call_len (by rfl) T.b_len PySem.boot_len (pa_cons (pe_ix ix_list (pv 0) pe_int (fun _ _ => rfl)) pa_nil)) (nomark _))
        (pss_one (ps_set (i := 2) nd rfl (.inl rfl) (pe_ix ix_list (pe_ix ix_list (pv 0) pe_int (fun _ _ => rfl)) (pe_ix ix_list (pv 0) pe_int (fun _ _ => rfl)) (fun _ _ => rfl)))) pss_nil)
      (pss_cons (ps_augS (pv 0) pe_int get_list pe_int ip_add set_list)
      (pss_cons (ps_if (pt_cmpR op_ge (pv 2) pe_int (nomark _)) (pss_one (ps_asg (pv 2) (pg_sub (pv 0) pe_int set_list))) pss_nil)
      (pss_cons (ps_set (i := 3) nd rfl (.inl rfl) (pe_op op_add (pe_op op_add (pe_op op_mul (pe_ix ix_list (pv 0) pe_int (fun _ _ => rfl)) pe_int) (pe_op op_modN (I0 (by rfl) T.b_int (pv 2) (by rfl) (by rfl)) pe_int)) (pe_op op_mul pe_int (pe_ix ix_list (pv 0) pe_int (fun _ _ => rfl)))))
      (pss_one (ps_asg (pe_op op_modN (I0 (by rfl) T.b_int (pv 3) (by rfl) (by rfl)) pe_int) (pg_sub (pv 0) pe_int set_list)))))))) pss_nil)
    (pss_cons (ps_if (pt_cmpR op_gt (pe_ix ix_list (pv 0) pe_int (fun _ _ => rfl)) pe_int (nomark _))
      (pss_cons (ps_set (i := 4) nd rfl (.inl rfl) (pe_op op_modN (I0 (by rfl) T.b_int (pe_ix ix_list (pv 0) pe_int (fun _ _ => rfl)) (by rfl) (by rfl)) (pv 1)))
      (pss_cons (ps_asg (pe_op op_fdivN (I0 (by rfl) T.b_int (pe_ix ix_list (pv 0) pe_int (fun _ _ => rfl)) (by rfl) (by rfl)) (pv 1)) (pg_sub (pv 0) pe_int set_list))
      (pss_one (ps_ret (pv 4))))) pss_nil)
    (pss_cons (ps_set (i := 5) nd rfl (.inl rfl) (pe_op op_modN (I0 (by rfl) T.b_int (pe_op op_mul (pe_op op_add (pe_ix ix_list (pv 0) pe_int (fun _ _ => rfl)) pe_int) pe_int) (by rfl) (by rfl)) pe_int))
    (pss_cons (ps_set (i := 6) nd rfl (.inl rfl) (pe_op op_modN (I0 (by rfl) T.b_int (pe_op op_mul (pe_op op_modN (I0 (by rfl) T.b_int (pe_op op_mul (pv 5) (pv 5)) (by rfl) (by rfl)) pe_int) pe_int) (by rfl) (by rfl)) pe_int))
    (pss_one (ps_ret (pe_op op_modN (I0 (by rfl) T.b_int (pe_op op_fdivN (pv 6) pe_int) (by rfl) (by rfl)) (pv 1)))))))
theorem ok_one (T : Tx K mg) (D0 : Dfn K mg "_law_one" s__law_one ["_law_bag_here", "_law_some"]) (c__law_take : CTake P w K mg base := by assumption) : COne P w K mg base := by
  refine FnX.of D0 sc__law_one rfl mono_tOne len_tOne fun f cdv A outer s H E hr => ⟨_, (pds_one (pds_ret (pd_ixV (pdv_var (pv 1)) (pdv_of (pd_fn c__law_take (hr.mono (by omega)) (by rfl) (pda_cons (pd_var (pv 0)) (pda_cons (pd_lenV (by rfl) T.b_len (pdv_var (pv 1))) pda_nil)))) (fun _ _ => rfl)))), fun rs Q h => ?_⟩
  obtain ⟨xs, rfl, h1, h2, q⟩ := tOne_in h
  refine ⟨by omega, by omega, fun d h3 h4 => ?_⟩
  have hd : d.toNat < xs.length := by omega
  have e : atI xs d = some xs[d.toNat] := atI_of (by omega) (List.getElem?_eq_getElem hd)
  exact ⟨_, e, q _ _ (List.getElem?_eq_getElem hd)⟩
theorem ok_alike (T : Tx K mg) (D0 : Dfn K mg "_law_alike" s__law_alike ["_law_found", "_law_due"]) : CAlike P w K mg base := by
  refine FnXG.of D0 sc__law_alike rfl mono_tf2 len_tf2 fun f cdv A outer s H E gd hr => ⟨_, (pds_one (pds_ret (pd_and (pd_eq hr.units (pd_var (pv 0)) (pd_var (pv 1))) (pd_one (pd_eq hr.units (pd_repr gd (u150 hr) (by rfl) T.b_repr (pda_cons (pd_var (pv 0)) pda_nil)) (pd_repr gd (u150 hr) (by rfl) T.b_repr (pda_cons (pd_var (pv 1)) pda_nil))))))), fun rs Q h => ?_⟩
  obtain ⟨d, e, rfl, ⟨rfl, hs, ho⟩, q⟩ := tf2_in h
  simp only [tdRet, tdAnd, td2, tdVar, startD, fz, List.cons_append, List.nil_append, List.getElem?_cons_zero, List.getElem?_cons_succ]
  refine fEq_same hs ?_
  refine ⟨ho, ho, fEq_str ?_⟩
  exact q
end

end K31
set_option Elab.async false
set_option linter.all false
set_option maxRecDepth 100000
set_option maxHeartbeats 4000000
namespace K31
open PySem PySem.Spec PyProof.Rows L2 DL
section
variable {P : Program} {w : World} {K : PySem.W.Frag} {mg : Str → Option Value} {base : Heap}
abbrev C_is_integer (P : Program) (w : World) (K : PySem.W.Frag) (mg : Str → Option Value) (base : Heap) : Prop := PF P w K mg base 1 "is_integer" (fun d => .dt (.bl (isInt d)))
abbrev C_is_column_part (P : Program) (w : World) (K : PySem.W.Frag) (mg : Str → Option Value) (base : Heap) : Prop := PF P w K mg base 2 "is_column_part" (fun d => .dt (.bl (isPart d)))
abbrev C_is_row_part (P : Program) (w : World) (K : PySem.W.Frag) (mg : Str → Option Value) (base : Heap) : Prop := PF P w K mg base 2 "is_row_part" (fun d => .dt (.bl (isRow d)))
abbrev C_is_limit (P : Program) (w : World) (K : PySem.W.Frag) (mg : Str → Option Value) (base : Heap) : Prop := PF P w K mg base 2 "is_limit" (fun d => .dt (.bl (isLim d)))
abbrev C_is_name (P : Program) (w : World) (K : PySem.W.Frag) (mg : Str → Option Value) (base : Heap) : Prop := PF P w K mg base 3 "is_name" (fun d => .dt (.bl (isName d)))
abbrev C_is_range (P : Program) (w : World) (K : PySem.W.Frag) (mg : Str → Option Value) (base : Heap) : Prop := PF P w K mg base 3 "is_range" (fun d => .dt (.bl (isRange d)))
abbrev C_is_number (P : Program) (w : World) (K : PySem.W.Frag) (mg : Str → Option Value) (base : Heap) : Prop := PF P w K mg base 2 "is_number" (fun d => .dt (.bl (isNum d)))
theorem ok_is_integer (T : Tx K mg) (D0 : Dfn K mg "is_integer" s_is_integer ["thing"]) : C_is_integer P w K mg base := by
  refine FnX.of D0 sc_is_integer rfl mono_tf1 len_tf1 fun f cdv A outer s H E hr => ⟨_, (pds_one (pds_ret (pd_and (pd_isi .int (by rfl) T.b_isinstance (by rfl) T.b_int boot_intT (pd_var (pv 0))) (pd_one (pd_not (pd_isi .bool (by rfl) T.b_isinstance (by rfl) T.b_bool boot_boolT (pd_var (pv 0)))))))), fun rs Q h => ?_⟩
  obtain ⟨d, rfl, hd, q⟩ := tf1_in h
  have hd := plain_ins hd
  refine ⟨hd, ?_⟩
  cases d <;> first | exact q | exact ⟨hd, q⟩
theorem ok_is_limit (T : Tx K mg) (D0 : Dfn K mg "is_limit" s_is_limit ["thing"]) (c_is_integer : C_is_integer P w K mg base := by assumption) : C_is_limit P w K mg base := by
  refine FnX.of D0 sc_is_limit rfl mono_tf1 len_tf1 fun f cdv A outer s H E hr => ⟨_, (pds_one (pds_ret (pd_or (pd_isN (pd_var (pv 0)) (pd_c pe_non fun _ => .non)) (pd_one (pd_fn c_is_integer (hr.mono (by omega)) (by rfl) (pda_cons (pd_var (pv 0)) pda_nil)))))), fun rs Q h => ?_⟩
  obtain ⟨d, rfl, hd, q⟩ := tf1_in h
  cases d <;> first | exact q | exact ⟨hd, q⟩
theorem ok_is_column_part (T : Tx K mg) (D0 : Dfn K mg "is_column_part" s_is_column_part ["thing"]) (c_is_integer : C_is_integer P w K mg base := by assumption) : C_is_column_part P w K mg base := by
  refine FnX.of D0 sc_is_column_part rfl mono_tf1 len_tf1 fun f cdv A outer s H E hr => ⟨_, (pds_cons (pds_if (PDW.t (pdw_or (pdt_not (pdt_b (pd_isi .tuple (by rfl) T.b_isinstance (by rfl) T.b_tuple boot_tupleT (pd_var (pv 0))))) (pdw_or (pdt_not (pdt_chain op_le op_le mono_fLe mono_fLe (opS_I0 fun _ _ _ => .bl _) (opS_I0 fun _ _ _ => .bl _) (pd_c pe_int fun _ => .int _) (pd_lenV (by rfl) T.b_len (pdv_var (pv 0))) (pd_c pe_int fun _ => .int _))) (pdw_or1 (pdt_not (pdt_b (pd_isi .str (by rfl) T.b_isinstance (by rfl) T.b_str boot_strT (pd_ixV (pdv_var (pv 0)) (pdv_of (pd_c pe_int fun _ => .int _)) (fun _ _ => rfl))))))))) (pds_one (pds_ret (pd_c pe_bl fun _ => .bl _))) pds_nil)
      (pds_cons (pds_if (pdt_eq hr.units (pd_lenV (by rfl) T.b_len (pdv_var (pv 0))) (pd_c pe_int fun _ => .int _)) (pds_one (pds_ret (pd_eq hr.units (pd_ixV (pdv_var (pv 0)) (pdv_of (pd_c pe_int fun _ => .int _)) (fun _ _ => rfl)) (pd_c pe_str fun _ => .str _)))) pds_nil)
      (pds_one (pds_ret (pd_and (pd_fn c_is_integer (hr.mono (by omega)) (by rfl) (pda_cons (pd_ixV (pdv_var (pv 0)) (pdv_of (pd_c pe_int fun _ => .int _)) (fun _ _ => rfl)) pda_nil)) (pd_one (pd_or (pd_eq hr.units (pd_ixV (pdv_var (pv 0)) (pdv_of (pd_c pe_int fun _ => .int _)) (fun _ _ => rfl)) (pd_c pe_str fun _ => .str _)) (pd_one (pd_and (pd_eq hr.units (pd_ixV (pdv_var (pv 0)) (pdv_of (pd_c pe_int fun _ => .int _)) (fun _ _ => rfl)) (pd_c pe_str fun _ => .str _)) (pd_one (pd_ge (pd_ixV (pdv_var (pv 0)) (pdv_of (pd_c pe_int fun _ => .int _)) (fun _ _ => rfl)) (pd_c pe_int fun _ => .int _)))))))))))), fun rs Q h => ?_⟩
  obtain ⟨d, rfl, hd, q⟩ := tf1_in h
  refine ⟨plain_ins hd, ?_⟩
  cases d <;> first | exact q | skip
  rename_i xs
  match xs, hd, q with
  | [], hd, q => exact q
  | [a], hd, q =>
    refine ⟨a, atI_zero, plain_ins (plain_cons hd).1, ?_⟩
    cases a <;> first | exact q | exact ⟨rfl, rfl, _, atI_zero, q⟩
  | [a, b], hd, q =>
    obtain ⟨ha, hb⟩ := plain_cons hd
    have hb := (plain_cons hb).1
    refine ⟨a, atI_zero, plain_ins ha, ?_⟩
    cases a <;> first | exact q | skip
    rename_i k
    refine ⟨rfl, rfl, b, atI_of (j := 1) rfl rfl, hb, ?_⟩
    cases b <;> first | exact q | skip
    rename_i i _
    refine ⟨.str k, atI_zero, ?_⟩
    refine or_in (Q := qb Q) q fun q => ⟨.str k, atI_zero, ?_⟩
    refine and_in (Q := qb Q) q fun q => ⟨.int i, atI_of (j := 1) rfl rfl, ?_⟩
    exact q
  | a :: b :: c :: ds, hd, q =>
    refine if_no rfl ?_
    refine if_yes (decide_eq_true (by simp only [List.length_cons]; omega) : decide ((1 : Int) ≤ (((a :: b :: c :: ds).length : Nat) : Int)) = true) ?_
    refine fLe_no (n := ((a :: b :: c :: ds).length : Nat)) (m := 2) (by simp only [List.length_cons]; omega) ?_
    have e : isPart (.tup (a :: b :: c :: ds)) = false := by cases a <;> first | rfl | (cases b <;> rfl)
    rw [e] at q
    exact q
theorem ok_is_row_part (T : Tx K mg) (D0 : Dfn K mg "is_row_part" s_is_row_part ["thing"]) (c_is_integer : C_is_integer P w K mg base := by assumption) : C_is_row_part P w K mg base := by
  refine FnX.of D0 sc_is_row_part rfl mono_tf1 len_tf1 fun f cdv A outer s H E hr => ⟨_, (pds_cons (pds_if (PDW.t (pdw_or (pdt_not (pdt_b (pd_isi .tuple (by rfl) T.b_isinstance (by rfl) T.b_tuple boot_tupleT (pd_var (pv 0))))) (pdw_or (pdt_not (pdt_chain op_le op_le mono_fLe mono_fLe (opS_I0 fun _ _ _ => .bl _) (opS_I0 fun _ _ _ => .bl _) (pd_c pe_int fun _ => .int _) (pd_lenV (by rfl) T.b_len (pdv_var (pv 0))) (pd_c pe_int fun _ => .int _))) (pdw_or1 (pdt_not (pdt_b (pd_isi .str (by rfl) T.b_isinstance (by rfl) T.b_str boot_strT (pd_ixV (pdv_var (pv 0)) (pdv_of (pd_c pe_int fun _ => .int _)) (fun _ _ => rfl))))))))) (pds_one (pds_ret (pd_c pe_bl fun _ => .bl _))) pds_nil)
      (pds_cons (pds_if (pdt_eq hr.units (pd_lenV (by rfl) T.b_len (pdv_var (pv 0))) (pd_c pe_int fun _ => .int _)) (pds_one (pds_ret (pd_in (pd_ixV (pdv_var (pv 0)) (pdv_of (pd_c pe_int fun _ => .int _)) (fun _ _ => rfl)) (pd_tup (pda_cons (pd_c pe_str fun _ => .str _) (pda_cons (pd_c pe_str fun _ => .str _) pda_nil)))))) pds_nil)
      (pds_one (pds_ret (pd_and (pd_fn c_is_integer (hr.mono (by omega)) (by rfl) (pda_cons (pd_ixV (pdv_var (pv 0)) (pdv_of (pd_c pe_int fun _ => .int _)) (fun _ _ => rfl)) pda_nil)) (pd_one (pd_or (pd_eq hr.units (pd_ixV (pdv_var (pv 0)) (pdv_of (pd_c pe_int fun _ => .int _)) (fun _ _ => rfl)) (pd_c pe_str fun _ => .str _)) (pd_one (pd_and (pd_eq hr.units (pd_ixV (pdv_var (pv 0)) (pdv_of (pd_c pe_int fun _ => .int _)) (fun _ _ => rfl)) (pd_c pe_str fun _ => .str _)) (pd_one (pd_ge (pd_ixV (pdv_var (pv 0)) (pdv_of (pd_c pe_int fun _ => .int _)) (fun _ _ => rfl)) (pd_c pe_int fun _ => .int _)))))))))))), fun rs Q h => ?_⟩
  obtain ⟨d, rfl, hd, q⟩ := tf1_in h
  refine ⟨plain_ins hd, ?_⟩
  cases d <;> first | exact q | skip
  rename_i xs
  match xs, hd, q with
  | [], hd, q => exact q
  | [a], hd, q =>
    refine ⟨a, atI_zero, plain_ins (plain_cons hd).1, ?_⟩
    cases a <;> first | exact q | exact ⟨rfl, rfl, _, atI_zero, (by decide : (2 : Nat) ≤ sizeLine), q⟩
  | [a, b], hd, q =>
    obtain ⟨ha, hb⟩ := plain_cons hd
    have hb := (plain_cons hb).1
    refine ⟨a, atI_zero, plain_ins ha, ?_⟩
    cases a <;> first | exact q | skip
    rename_i k
    refine ⟨rfl, rfl, b, atI_of (j := 1) rfl rfl, hb, ?_⟩
    cases b <;> first | exact q | skip
    rename_i i _
    refine ⟨.str k, atI_zero, ?_⟩
    refine or_in (Q := qb Q) q fun q => ⟨.str k, atI_zero, ?_⟩
    refine and_in (Q := qb Q) q fun q => ⟨.int i, atI_of (j := 1) rfl rfl, ?_⟩
    exact q
  | a :: b :: c :: ds, hd, q =>
    refine if_no rfl ?_
    refine if_yes (decide_eq_true (by simp only [List.length_cons]; omega) : decide ((1 : Int) ≤ (((a :: b :: c :: ds).length : Nat) : Int)) = true) ?_
    refine fLe_no (n := ((a :: b :: c :: ds).length : Nat)) (m := 2) (by simp only [List.length_cons]; omega) ?_
    have e : isRow (.tup (a :: b :: c :: ds)) = false := by cases a <;> first | rfl | (cases b <;> rfl)
    rw [e] at q
    exact q
theorem ok_is_name (T : Tx K mg) (D0 : Dfn K mg "is_name" s_is_name ["thing"]) (c_is_column_part : C_is_column_part P w K mg base := by assumption) (c_is_row_part : C_is_row_part P w K mg base := by assumption) : C_is_name P w K mg base := by
  refine FnX.of D0 sc_is_name rfl mono_tf1 len_tf1 fun f cdv A outer s H E hr => ⟨_, (pds_cons (pds_if (PDW.t (pdw_or (pdt_not (pdt_b (pd_isi .tuple (by rfl) T.b_isinstance (by rfl) T.b_tuple boot_tupleT (pd_var (pv 0))))) (pdw_or (pdt_ne hr.units (pd_lenV (by rfl) T.b_len (pdv_var (pv 0))) (pd_c pe_int fun _ => .int _)) (pdw_or (pdt_not (pdt_b (pd_isi .str (by rfl) T.b_isinstance (by rfl) T.b_str boot_strT (pd_ixV (pdv_var (pv 0)) (pdv_of (pd_c pe_int fun _ => .int _)) (fun _ _ => rfl))))) (pdw_or1 (pdt_ne hr.units (pd_ixV (pdv_var (pv 0)) (pdv_of (pd_c pe_int fun _ => .int _)) (fun _ _ => rfl)) (pd_c pe_str fun _ => .str _))))))) (pds_one (pds_ret (pd_c pe_bl fun _ => .bl _))) pds_nil)
      (pds_one (pds_ret (pd_and (pd_fn c_is_column_part (hr.mono (by omega)) (by rfl) (pda_cons (pd_ixV (pdv_var (pv 0)) (pdv_of (pd_c pe_int fun _ => .int _)) (fun _ _ => rfl)) pda_nil)) (pd_one (pd_fn c_is_row_part (hr.mono (by omega)) (by rfl) (pda_cons (pd_ixV (pdv_var (pv 0)) (pdv_of (pd_c pe_int fun _ => .int _)) (fun _ _ => rfl)) pda_nil))))))), fun rs Q h => ?_⟩
  obtain ⟨d, rfl, hd, q⟩ := tf1_in h
  refine ⟨plain_ins hd, ?_⟩
  cases d <;> first | exact q | skip
  rename_i xs
  by_cases hl : xs.length = 3
  · match xs, hl, hd, q with
    | [a, b, c], hl, hd, q =>
      obtain ⟨ha, hb⟩ := plain_cons hd
      obtain ⟨hb, hc⟩ := plain_cons hb
      have hc := (plain_cons hc).1
      refine ⟨rfl, rfl, a, atI_zero, plain_ins ha, ?_⟩
      cases a with
      | str k =>
        refine ⟨_, atI_zero, ?_⟩
        have q' : qb Q (decide (k = "name") && (isPart b && isRow c)) := q
        cases e : decide (k = "name") with
        | false => rw [e] at q'; refine if_yes (by rw [e]; rfl) q'
        | true =>
          rw [e] at q'
          refine if_no (by rw [e]; rfl) ⟨b, atI_of (j := 1) rfl rfl, hb, ?_⟩
          exact and_in (Q := qb Q) q' fun q => ⟨c, atI_of (j := 2) rfl rfl, hc, q⟩
      | _ => exact q
  · rw [name_len hl] at q
    exact ⟨rfl, rfl, if_yes (ne_len (n := 3) hl) q⟩
theorem ok_is_range (T : Tx K mg) (D0 : Dfn K mg "is_range" s_is_range ["thing"]) (c_is_column_part : C_is_column_part P w K mg base := by assumption) (c_is_limit : C_is_limit P w K mg base := by assumption) : C_is_range P w K mg base := by
  refine FnX.of D0 sc_is_range rfl mono_tf1 len_tf1 fun f cdv A outer s H E hr => ⟨_, (pds_cons (pds_if (PDW.t (pdw_or (pdt_not (pdt_b (pd_isi .tuple (by rfl) T.b_isinstance (by rfl) T.b_tuple boot_tupleT (pd_var (pv 0))))) (pdw_or (pdt_ne hr.units (pd_lenV (by rfl) T.b_len (pdv_var (pv 0))) (pd_c pe_int fun _ => .int _)) (pdw_or (pdt_not (pdt_b (pd_isi .str (by rfl) T.b_isinstance (by rfl) T.b_str boot_strT (pd_ixV (pdv_var (pv 0)) (pdv_of (pd_c pe_int fun _ => .int _)) (fun _ _ => rfl))))) (pdw_or1 (pdt_ne hr.units (pd_ixV (pdv_var (pv 0)) (pdv_of (pd_c pe_int fun _ => .int _)) (fun _ _ => rfl)) (pd_c pe_str fun _ => .str _))))))) (pds_one (pds_ret (pd_c pe_bl fun _ => .bl _))) pds_nil)
      (pds_one (pds_ret (pd_and (pd_fn c_is_column_part (hr.mono (by omega)) (by rfl) (pda_cons (pd_ixV (pdv_var (pv 0)) (pdv_of (pd_c pe_int fun _ => .int _)) (fun _ _ => rfl)) pda_nil)) (pd_and (pd_fn c_is_limit (hr.mono (by omega)) (by rfl) (pda_cons (pd_ixV (pdv_var (pv 0)) (pdv_of (pd_c pe_int fun _ => .int _)) (fun _ _ => rfl)) pda_nil)) (pd_one (pd_fn c_is_limit (hr.mono (by omega)) (by rfl) (pda_cons (pd_ixV (pdv_var (pv 0)) (pdv_of (pd_c pe_int fun _ => .int _)) (fun _ _ => rfl)) pda_nil)))))))), fun rs Q h => ?_⟩
  obtain ⟨d, rfl, hd, q⟩ := tf1_in h
  refine ⟨plain_ins hd, ?_⟩
  cases d <;> first | exact q | skip
  rename_i xs
  by_cases hl : xs.length = 4
  · match xs, hl, hd, q with
    | [a, b, c, d], hl, hd, q =>
      obtain ⟨ha, hb⟩ := plain_cons hd
      obtain ⟨hb, hc⟩ := plain_cons hb
      obtain ⟨hc, he⟩ := plain_cons hc
      have he := (plain_cons he).1
      refine ⟨rfl, rfl, a, atI_zero, plain_ins ha, ?_⟩
      cases a with
      | str k =>
        refine ⟨_, atI_zero, ?_⟩
        have q' : qb Q (decide (k = "rows") && (isPart b && (isLim c && isLim d))) := q
        cases e : decide (k = "rows") with
        | false => rw [e] at q'; refine if_yes (by rw [e]; rfl) q'
        | true =>
          rw [e] at q'
          refine if_no (by rw [e]; rfl) ⟨b, atI_of (j := 1) rfl rfl, hb, ?_⟩
          exact and_in (Q := qb Q) q' fun q => ⟨c, atI_of (j := 2) rfl rfl, hc, and_in (Q := qb Q) q fun q => ⟨d, atI_of (j := 3) rfl rfl, he, q⟩⟩
      | _ => exact q
  · rw [range_len hl] at q
    exact ⟨rfl, rfl, if_yes (ne_len (n := 4) hl) q⟩
theorem ok_is_number (T : Tx K mg) (D0 : Dfn K mg "is_number" s_is_number ["thing"]) (c_is_integer : C_is_integer P w K mg base := by assumption) : C_is_number P w K mg base := by
  refine FnX.of D0 sc_is_number rfl mono_tf1 len_tf1 fun f cdv A outer s H E hr => ⟨_, (pds_one (pds_ret (pd_and (pd_fn c_is_integer (hr.mono (by omega)) (by rfl) (pda_cons (pd_var (pv 0)) pda_nil)) (pd_one (pd_chain op_le op_le mono_fLe mono_fLe (opS_I0 fun _ _ _ => .bl _) (opS_I0 fun _ _ _ => .bl _) (pd_neg (pd_gint T.i_FAR (by rfl))) (pd_var (pv 0)) (pd_gint T.i_FAR (by rfl))))))), fun rs Q h => ?_⟩
  obtain ⟨d, rfl, hd, q⟩ := tf1_in h
  refine ⟨hd, ?_⟩
  cases d <;> first | exact q | skip
  rename_i i
  refine if_yes rfl ?_
  exact and_in (Q := qb Q) q fun q => q
end

end K31
set_option Elab.async false
set_option linter.all false
set_option maxRecDepth 100000
set_option maxHeartbeats 4000000
namespace K31
open PySem PySem.Spec PyProof.Rows L2 DL
section
variable {P : Program} {w : World} {K : PySem.W.Frag} {mg : Str → Option Value} {base : Heap}
abbrev C_parts (P : Program) (w : World) (K : PySem.W.Frag) (mg : Str → Option Value) (base : Heap) : Prop := FnX P w K mg base 1 "parts" 1 (tFm (fun f => f.wf ∧ f.parts.length ≤ 100000) fun f => .ol (f.parts.map Fm.d))
theorem ok_parts (T : Tx K mg) (D0 : Dfn K mg "parts" s_parts ["formula"]) : C_parts P w K mg base := by
  refine FnX.of D0 sc_parts rfl mono_tFm len_tFm fun f cdv A outer s H E hr => ⟨_, (pds_cons (pds_if (pdt_in (pd_ixV (pdv_var (pv 0)) (pdv_of (pd_c pe_int fun _ => .int _)) (fun _ _ => rfl)) (pd_tup (pda_cons (pd_c pe_str fun _ => .str _) (pda_cons (pd_c pe_str fun _ => .str _) (pda_cons (pd_c pe_str fun _ => .str _) pda_nil))))) (pds_one (pds_ret (pd_list (by rfl) T.b_list (pda_cons (pd_ixV (pdv_var (pv 0)) (pdv_of (pd_c pe_int fun _ => .int _)) (fun _ _ => rfl)) pda_nil)))) pds_nil)
      (pds_cons (pds_if (pdt_eq hr.units (pd_ixV (pdv_var (pv 0)) (pdv_of (pd_c pe_int fun _ => .int _)) (fun _ _ => rfl)) (pd_c pe_str fun _ => .str _)) (pds_one (pds_ret (pd_lst (pda_cons (pd_ixV (pdv_var (pv 0)) (pdv_of (pd_c pe_int fun _ => .int _)) (fun _ _ => rfl)) pda_nil)))) pds_nil)
      (pds_cons (pds_if (pdt_eq hr.units (pd_ixV (pdv_var (pv 0)) (pdv_of (pd_c pe_int fun _ => .int _)) (fun _ _ => rfl)) (pd_c pe_str fun _ => .str _)) (pds_one (pds_ret (pd_lst (pda_cons (pd_ixV (pdv_var (pv 0)) (pdv_of (pd_c pe_int fun _ => .int _)) (fun _ _ => rfl)) (pda_cons (pd_ixV (pdv_var (pv 0)) (pdv_of (pd_c pe_int fun _ => .int _)) (fun _ _ => rfl)) pda_nil))))) pds_nil)
      (pds_cons (pds_if (pdt_eq hr.units (pd_ixV (pdv_var (pv 0)) (pdv_of (pd_c pe_int fun _ => .int _)) (fun _ _ => rfl)) (pd_c pe_str fun _ => .str _)) (pds_one (pds_ret (pd_lst (pda_cons (pd_ixV (pdv_var (pv 0)) (pdv_of (pd_c pe_int fun _ => .int _)) (fun _ _ => rfl)) (pda_star (pdv_of (pd_sliceV (pdv_var (pv 0)) (pdo_some (pd_c pe_int fun _ => .int _)) pdo_none)) pda_nil))))) pds_nil)
      (pds_one (pds_ret (pd_lst pda_nil))))))), fun rs Q h => ?_⟩
  obtain ⟨f, e, ⟨wf, hl⟩, q⟩ := h
  have z1 := sizeLine_eq
  dsimp only at q
  rw [← fdA_map] at q
  cases f with
  | node g xs =>
    rw [Fm.d] at e
    rw [Fm.wf] at wf
    subst e
    cases g with
    | mn w =>
      have hz : (fdA xs).length ≤ sizeLine := by rw [fdA_len]; exact Nat.le_trans hl (by omega)
      cases w <;> ((repeat (first | refine ⟨_, atI_zero, ?_⟩ | refine ⟨_, atI_of (j := 1) rfl rfl, ?_⟩ | refine ⟨_, atI_of (j := 2) rfl rfl, ?_⟩ | refine ⟨_, atI_of (j := 3) rfl rfl, ?_⟩ | refine ⟨_, atI_of (j := 4) rfl rfl, ?_⟩ | refine ⟨_, atI_of (j := 5) rfl rfl, ?_⟩ | refine ⟨le_szL rfl, ?_⟩ | refine ⟨rfl, rfl, ?_⟩)); exact ⟨hz, q⟩)
    | tm i => obtain ⟨⟨a, rfl⟩, _⟩ := wf; (repeat (first | refine ⟨_, atI_zero, ?_⟩ | refine ⟨_, atI_of (j := 1) rfl rfl, ?_⟩ | refine ⟨_, atI_of (j := 2) rfl rfl, ?_⟩ | refine ⟨_, atI_of (j := 3) rfl rfl, ?_⟩ | refine ⟨_, atI_of (j := 4) rfl rfl, ?_⟩ | refine ⟨_, atI_of (j := 5) rfl rfl, ?_⟩ | refine ⟨le_szL rfl, ?_⟩ | refine ⟨rfl, rfl, ?_⟩)); exact q
    | ov => obtain ⟨⟨a, b, rfl⟩, _⟩ := wf; (repeat (first | refine ⟨_, atI_zero, ?_⟩ | refine ⟨_, atI_of (j := 1) rfl rfl, ?_⟩ | refine ⟨_, atI_of (j := 2) rfl rfl, ?_⟩ | refine ⟨_, atI_of (j := 3) rfl rfl, ?_⟩ | refine ⟨_, atI_of (j := 4) rfl rfl, ?_⟩ | refine ⟨_, atI_of (j := 5) rfl rfl, ?_⟩ | refine ⟨le_szL rfl, ?_⟩ | refine ⟨rfl, rfl, ?_⟩)); exact q
    | cs s => obtain ⟨⟨a, b, c, d, rfl⟩, _⟩ := wf; (repeat (first | refine ⟨_, atI_zero, ?_⟩ | refine ⟨_, atI_of (j := 1) rfl rfl, ?_⟩ | refine ⟨_, atI_of (j := 2) rfl rfl, ?_⟩ | refine ⟨_, atI_of (j := 3) rfl rfl, ?_⟩ | refine ⟨_, atI_of (j := 4) rfl rfl, ?_⟩ | refine ⟨_, atI_of (j := 5) rfl rfl, ?_⟩ | refine ⟨le_szL rfl, ?_⟩ | refine ⟨rfl, rfl, ?_⟩)); exact q
  | rg w c a b => rw [Fm.d] at e; subst e; cases w <;> ((repeat (first | refine ⟨_, atI_zero, ?_⟩ | refine ⟨_, atI_of (j := 1) rfl rfl, ?_⟩ | refine ⟨_, atI_of (j := 2) rfl rfl, ?_⟩ | refine ⟨_, atI_of (j := 3) rfl rfl, ?_⟩ | refine ⟨_, atI_of (j := 4) rfl rfl, ?_⟩ | refine ⟨_, atI_of (j := 5) rfl rfl, ?_⟩ | refine ⟨le_szL rfl, ?_⟩ | refine ⟨rfl, rfl, ?_⟩)); exact q)
  | _ => rw [Fm.d] at e; subst e; (repeat (first | refine ⟨_, atI_zero, ?_⟩ | refine ⟨_, atI_of (j := 1) rfl rfl, ?_⟩ | refine ⟨_, atI_of (j := 2) rfl rfl, ?_⟩ | refine ⟨_, atI_of (j := 3) rfl rfl, ?_⟩ | refine ⟨_, atI_of (j := 4) rfl rfl, ?_⟩ | refine ⟨_, atI_of (j := 5) rfl rfl, ?_⟩ | refine ⟨le_szL rfl, ?_⟩ | refine ⟨rfl, rfl, ?_⟩)); exact q

/-! ### reads -/
abbrev C_reads (n : Nat) (P : Program) (w : World) (K : PySem.W.Frag) (mg : Str → Option Value) (base : Heap) : Prop := FnX P w K mg base (3 + n) "reads" 1 (tFm (fun f => f.Sm n) fun f => .ol (f.rds.map Rd.d))
theorem ok_reads1 (n : Nat) (T : Tx K mg) (c_parts : C_parts P w K mg base) (c_reads : C_reads n P w K mg base) (D0 : Dfn K mg "reads" s_reads ["formula"]) : C_reads (n + 1) P w K mg base := by
  refine FnX.of (k := 3 + n) D0 sc_reads rfl mono_tFm len_tFm fun f cdv A outer s H E hr => ⟨_, (pds_cons (pds_if (pdt_eq hr.units (pd_ixV (pdv_var (pv 0)) (pdv_of (pd_c pe_int fun _ => .int _)) (fun _ _ => rfl)) (pd_c pe_str fun _ => .str _)) (pds_one (pds_ret (pd_lst (pda_cons (pd_var (pv 0)) pda_nil)))) pds_nil)
      (pds_cons (pds_if (pdt_in (pd_ixV (pdv_var (pv 0)) (pdv_of (pd_c pe_int fun _ => .int _)) (fun _ _ => rfl)) (pd_gtup T.g_OVER_RANGES T.t_OVER_RANGES (fun _ => (.cons (.str _) (.cons (.str _) (.cons (.str _) (.cons (.str _) .nil))))) (by rfl))) (pds_one (pds_ret (pd_lst (pda_cons (pd_ixV (pdv_var (pv 0)) (pdv_of (pd_c pe_int fun _ => .int _)) (fun _ _ => rfl)) pda_nil)))) pds_nil)
      (pds_one (pds_ret (pd_lc2 (vs1 := [2]) rfl sc_reads.nd (pdi_over (pd_fn c_parts (hr.mono (by omega)) (by rfl) (pda_cons (pd_var (pv 0)) pda_nil))) (blkOk_by (own := [("part", 1), ("read", 2)]) (N := ["formula", "part", "read"]) (sc := defScope s_reads) (by decide +kernel)) rfl (by decide) (fun _ _ _ _ _ => (pdg_nameW (pg_name (i := 1) sc_reads.nd rfl (Or.inl rfl)) (by decide))) (fun _ _ _ _ _ => pdts_nil) (fun _ _ _ _ _ => (pdi_over (pd_fn c_reads (hr.mono (by omega)) (by rfl) (pda_cons (pd_var (pv 1)) pda_nil)))) (fun _ _ _ _ _ => (pdg_nameW (pg_name (i := 2) sc_reads.nd rfl (Or.inl rfl)) (by decide))) (fun _ _ _ _ _ => pdts_nil) (fun _ _ _ _ _ => (pd_var (pv 2)))))))), fun rs Q h => ?_⟩
  obtain ⟨f, rfl, sm, q⟩ := h
  dsimp only at q
  have z1 := sizeLine_eq
  have key : ∀ δ : List Sl, δ.length = 3 → δ[0]? = some (.dt f.d) → f.rds = rdsA f.parts → tdLc2 (tdOver (tdCall (tFm (fun f => f.wf ∧ f.parts.length ≤ 100000) fun f => .ol (f.parts.map Fm.d)) (tdCons (tdVar 0) tdNil))) (gdName 1) tdYes (tdOver (tdCall (tFm (fun f => f.Sm n) fun f => .ol (f.rds.map Rd.d)) (tdCons (tdVar 1) tdNil))) (gdName 2) tdYes (tdVar 2) [1, 2] [2] δ (fun r _ => Q r) := by
    intro δ hd h0 er
    unfold tdLc2 tdOver tdCall tdCons tdNil tdVar
    rw [h0]
    refine ⟨f, rfl, ⟨sm.wf, Nat.le_trans parts_len sm.sz⟩, ?_⟩
    rw [er, rdsA_flat] at q
    have hz : (f.parts.flatMap fun x => x.rds.map Rd.d).length ≤ 100000 := by
      rw [← rdsA_flat, List.length_map, ← er]
      exact Nat.le_trans (rds_sz f) sm.sz
    refine comp2_flat Fm.d (fun x => x.rds.map Rd.d) (by rw [wipeD_len, hideOwn_len, hd]; decide) _ _ _ (fun x hx C hC => ?_) (by show 0 + _ ≤ _; omega) q
    dsimp only
    rw [List.getElem?_set_self (by rw [wipeD_len, hideOwn_len, hd]; decide)]
    exact ⟨x, rfl, sm.parts x hx, hC⟩
  cases f with
  | nm c r => rw [Fm.rds] at q; rw [Fm.d] at *; (repeat (first | refine ⟨_, atI_zero, ?_⟩ | refine ⟨_, atI_of (j := 1) rfl rfl, ?_⟩ | refine ⟨_, atI_of (j := 2) rfl rfl, ?_⟩ | refine ⟨_, atI_of (j := 3) rfl rfl, ?_⟩ | refine ⟨_, atI_of (j := 4) rfl rfl, ?_⟩ | refine ⟨_, atI_of (j := 5) rfl rfl, ?_⟩ | refine ⟨le_szL rfl, ?_⟩ | refine ⟨rfl, rfl, ?_⟩)); exact q
  | rg w c a b => rw [Fm.rds] at q; rw [Fm.d] at *; cases w <;> ((repeat (first | refine ⟨_, atI_zero, ?_⟩ | refine ⟨_, atI_of (j := 1) rfl rfl, ?_⟩ | refine ⟨_, atI_of (j := 2) rfl rfl, ?_⟩ | refine ⟨_, atI_of (j := 3) rfl rfl, ?_⟩ | refine ⟨_, atI_of (j := 4) rfl rfl, ?_⟩ | refine ⟨_, atI_of (j := 5) rfl rfl, ?_⟩ | refine ⟨le_szL rfl, ?_⟩ | refine ⟨rfl, rfl, ?_⟩)); exact q)
  | node g xs =>
    have er : (Fm.node g xs).rds = rdsA (Fm.node g xs).parts := by rw [Fm.rds]; rfl
    have key := key [.dt (Fm.node g xs).d, .no, .no] rfl rfl er
    have wf := sm.wf
    rw [Fm.wf] at wf
    rw [Fm.d] at key ⊢
    cases g with
    | mn w => cases w <;> ((repeat (first | refine ⟨_, atI_zero, ?_⟩ | refine ⟨_, atI_of (j := 1) rfl rfl, ?_⟩ | refine ⟨_, atI_of (j := 2) rfl rfl, ?_⟩ | refine ⟨_, atI_of (j := 3) rfl rfl, ?_⟩ | refine ⟨_, atI_of (j := 4) rfl rfl, ?_⟩ | refine ⟨_, atI_of (j := 5) rfl rfl, ?_⟩ | refine ⟨le_szL rfl, ?_⟩ | refine ⟨rfl, rfl, ?_⟩)); exact key)
    | tm i => (repeat (first | refine ⟨_, atI_zero, ?_⟩ | refine ⟨_, atI_of (j := 1) rfl rfl, ?_⟩ | refine ⟨_, atI_of (j := 2) rfl rfl, ?_⟩ | refine ⟨_, atI_of (j := 3) rfl rfl, ?_⟩ | refine ⟨_, atI_of (j := 4) rfl rfl, ?_⟩ | refine ⟨_, atI_of (j := 5) rfl rfl, ?_⟩ | refine ⟨le_szL rfl, ?_⟩ | refine ⟨rfl, rfl, ?_⟩)); exact key
    | ov => (repeat (first | refine ⟨_, atI_zero, ?_⟩ | refine ⟨_, atI_of (j := 1) rfl rfl, ?_⟩ | refine ⟨_, atI_of (j := 2) rfl rfl, ?_⟩ | refine ⟨_, atI_of (j := 3) rfl rfl, ?_⟩ | refine ⟨_, atI_of (j := 4) rfl rfl, ?_⟩ | refine ⟨_, atI_of (j := 5) rfl rfl, ?_⟩ | refine ⟨le_szL rfl, ?_⟩ | refine ⟨rfl, rfl, ?_⟩)); exact key
    | cs s => (repeat (first | refine ⟨_, atI_zero, ?_⟩ | refine ⟨_, atI_of (j := 1) rfl rfl, ?_⟩ | refine ⟨_, atI_of (j := 2) rfl rfl, ?_⟩ | refine ⟨_, atI_of (j := 3) rfl rfl, ?_⟩ | refine ⟨_, atI_of (j := 4) rfl rfl, ?_⟩ | refine ⟨_, atI_of (j := 5) rfl rfl, ?_⟩ | refine ⟨le_szL rfl, ?_⟩ | refine ⟨rfl, rfl, ?_⟩)); exact key
  | num i =>
    have key := key [.dt (Fm.num i).d, .no, .no] rfl rfl (by rw [Fm.rds]; rfl)
    rw [Fm.d] at key ⊢
    (repeat (first | refine ⟨_, atI_zero, ?_⟩ | refine ⟨_, atI_of (j := 1) rfl rfl, ?_⟩ | refine ⟨_, atI_of (j := 2) rfl rfl, ?_⟩ | refine ⟨_, atI_of (j := 3) rfl rfl, ?_⟩ | refine ⟨_, atI_of (j := 4) rfl rfl, ?_⟩ | refine ⟨_, atI_of (j := 5) rfl rfl, ?_⟩ | refine ⟨le_szL rfl, ?_⟩ | refine ⟨rfl, rfl, ?_⟩)); exact key
  | emp =>
    have key := key [.dt Fm.emp.d, .no, .no] rfl rfl (by rw [Fm.rds]; rfl)
    rw [Fm.d] at key ⊢
    (repeat (first | refine ⟨_, atI_zero, ?_⟩ | refine ⟨_, atI_of (j := 1) rfl rfl, ?_⟩ | refine ⟨_, atI_of (j := 2) rfl rfl, ?_⟩ | refine ⟨_, atI_of (j := 3) rfl rfl, ?_⟩ | refine ⟨_, atI_of (j := 4) rfl rfl, ?_⟩ | refine ⟨_, atI_of (j := 5) rfl rfl, ?_⟩ | refine ⟨le_szL rfl, ?_⟩ | refine ⟨rfl, rfl, ?_⟩)); exact key
  | inp =>
    have key := key [.dt Fm.inp.d, .no, .no] rfl rfl (by rw [Fm.rds]; rfl)
    rw [Fm.d] at key ⊢
    (repeat (first | refine ⟨_, atI_zero, ?_⟩ | refine ⟨_, atI_of (j := 1) rfl rfl, ?_⟩ | refine ⟨_, atI_of (j := 2) rfl rfl, ?_⟩ | refine ⟨_, atI_of (j := 3) rfl rfl, ?_⟩ | refine ⟨_, atI_of (j := 4) rfl rfl, ?_⟩ | refine ⟨_, atI_of (j := 5) rfl rfl, ?_⟩ | refine ⟨le_szL rfl, ?_⟩ | refine ⟨rfl, rfl, ?_⟩)); exact key
theorem ok_reads (T : Tx K mg) (D0 : Dfn K mg "reads" s_reads ["formula"]) (c_parts : C_parts P w K mg base := by assumption) : ∀ n, C_reads n P w K mg base
  | 0 => fnx_no D0 (fun rs Q ⟨f, _, h, _⟩ => absurd h.hgt (Nat.not_lt_zero _)) _
  | n + 1 => ok_reads1 n T c_parts (ok_reads T D0 c_parts n) D0
end

end K31
set_option Elab.async false
set_option linter.all false
set_option maxRecDepth 100000
set_option maxHeartbeats 4000000
namespace K31
open PySem PySem.Spec PyProof.Rows L2 DL
section
variable {P : Program} {w : World} {K : PySem.W.Frag} {mg : Str → Option Value} {base : Heap}
/-! ### depth -/
/-! ### is_linear -/
/-! ### has_input -/
abbrev C_has_input (n : Nat) (P : Program) (w : World) (K : PySem.W.Frag) (mg : Str → Option Value) (base : Heap) : Prop := FnX P w K mg base (3 + n) "has_input" 1 (tFm (fun f => f.Sm n) fun f => .dt (.bl f.hasInp))
theorem ok_has_input1 (n : Nat) (T : Tx K mg) (c_parts : C_parts P w K mg base) (c_has_input : C_has_input n P w K mg base) (D0 : Dfn K mg "has_input" s_has_input ["formula"]) : C_has_input (n + 1) P w K mg base := by
  refine FnX.of (k := 3 + n) D0 sc_has_input rfl mono_tFm len_tFm fun f cdv A outer s H E hr => ⟨_, (pds_one (pds_ret (pd_or (pd_eq hr.units (pd_ixV (pdv_var (pv 0)) (pdv_of (pd_c pe_int fun _ => .int _)) (fun _ _ => rfl)) (pd_c pe_str fun _ => .str _)) (pd_one (pd_any rfl (by rfl) T.b_any (pda_cons (pd_lc rfl sc_has_input.nd (pdi_over (pd_fn c_parts (hr.mono (by omega)) (by rfl) (pda_cons (pd_var (pv 0)) pda_nil))) (blkOk_by (own := [("part", 1)]) (N := ["formula", "part"]) (sc := defScope s_has_input) (by decide +kernel)) rfl (fun _ _ _ _ _ => (pdg_name (pg_name (i := 1) sc_has_input.nd rfl (Or.inl rfl)))) (fun _ _ _ _ _ => pdts_nil) (fun _ _ _ _ _ => (pd_fn c_has_input (hr.mono (by omega)) (by rfl) (pda_cons (pd_var (pv 1)) pda_nil)))) pda_nil)))))), fun rs Q h => ?_⟩
  obtain ⟨f, rfl, sm, q⟩ := h
  dsimp only at q
  have z1 := sizeLine_eq
  have pl := Nat.le_trans (parts_len (f := f)) sm.sz
  have key : f.hasInp = hasInpA f.parts → ∀ D : EndsD, (∀ δ, D.rt (.dt (.bl f.hasInp)) δ) → tdRet (tdCB (f1 gAny) (tdCons (tdLc (tdOver (tdCall (tFm (fun f => f.wf ∧ f.parts.length ≤ 100000) fun f => .ol (f.parts.map Fm.d)) (tdCons (tdVar 0) tdNil))) (gdName 1) tdYes (tdCall (tFm (fun f => f.Sm n) fun f => .dt (.bl f.hasInp)) (tdCons (tdVar 1) tdNil)) [1]) tdNil)) D [.dt f.d, .no] := by
    intro el D hD
    refine ⟨f, rfl, ⟨sm.wf, pl⟩, by rw [List.length_map]; omega, ?_⟩
    refine comp_map Fm.d (fun x => .bl x.hasInp) _ _ _ (fun x hx C hC => ⟨x, rfl, sm.parts x hx, hC _ rfl⟩) ?_
    have e : blsOf ([] ++ f.parts.map fun x => DL.D.bl x.hasInp) = some (f.parts.map Fm.hasInp) := by
      have z := blsOf_map (f.parts.map Fm.hasInp)
      rw [List.map_map] at z
      exact z
    show match blsOf ([] ++ f.parts.map fun x => DL.D.bl x.hasInp) with
      | some bs => D.rt (.dt (.bl (bs.any id))) _
      | none => False
    rw [e]
    show D.rt (.dt (.bl ((f.parts.map Fm.hasInp).any id))) _
    rw [inpA_any, ← el]
    exact hD _
  have q' : ∀ δ : List Sl, ({ nx := fun _ => Q (.dt .non), rt := fun r _ => Q r } : EndsD).rt (.dt (.bl f.hasInp)) δ := fun _ => q
  cases f with
  | inp => rw [Fm.hasInp] at q; rw [Fm.d]; (repeat (first | refine ⟨_, atI_zero, ?_⟩ | refine ⟨_, atI_of (j := 1) rfl rfl, ?_⟩ | refine ⟨_, atI_of (j := 2) rfl rfl, ?_⟩ | refine ⟨_, atI_of (j := 3) rfl rfl, ?_⟩ | refine ⟨_, atI_of (j := 4) rfl rfl, ?_⟩ | refine ⟨_, atI_of (j := 5) rfl rfl, ?_⟩ | refine ⟨le_szL rfl, ?_⟩ | refine ⟨rfl, rfl, ?_⟩)); exact q
  | node g xs =>
    have key := key (inp_parts _ (by intro z; cases z)) _ q'
    rw [Fm.d] at key ⊢
    cases g with
    | mn w => cases w <;> ((repeat (first | refine ⟨_, atI_zero, ?_⟩ | refine ⟨_, atI_of (j := 1) rfl rfl, ?_⟩ | refine ⟨_, atI_of (j := 2) rfl rfl, ?_⟩ | refine ⟨_, atI_of (j := 3) rfl rfl, ?_⟩ | refine ⟨_, atI_of (j := 4) rfl rfl, ?_⟩ | refine ⟨_, atI_of (j := 5) rfl rfl, ?_⟩ | refine ⟨le_szL rfl, ?_⟩ | refine ⟨rfl, rfl, ?_⟩)); exact key)
    | _ => (repeat (first | refine ⟨_, atI_zero, ?_⟩ | refine ⟨_, atI_of (j := 1) rfl rfl, ?_⟩ | refine ⟨_, atI_of (j := 2) rfl rfl, ?_⟩ | refine ⟨_, atI_of (j := 3) rfl rfl, ?_⟩ | refine ⟨_, atI_of (j := 4) rfl rfl, ?_⟩ | refine ⟨_, atI_of (j := 5) rfl rfl, ?_⟩ | refine ⟨le_szL rfl, ?_⟩ | refine ⟨rfl, rfl, ?_⟩)); exact key
  | rg w c a b => have key := key (inp_parts _ (by intro z; cases z)) _ q'; rw [Fm.d] at key ⊢; cases w <;> ((repeat (first | refine ⟨_, atI_zero, ?_⟩ | refine ⟨_, atI_of (j := 1) rfl rfl, ?_⟩ | refine ⟨_, atI_of (j := 2) rfl rfl, ?_⟩ | refine ⟨_, atI_of (j := 3) rfl rfl, ?_⟩ | refine ⟨_, atI_of (j := 4) rfl rfl, ?_⟩ | refine ⟨_, atI_of (j := 5) rfl rfl, ?_⟩ | refine ⟨le_szL rfl, ?_⟩ | refine ⟨rfl, rfl, ?_⟩)); exact key)
  | _ => have key := key (inp_parts _ (by intro z; cases z)) _ q'; rw [Fm.d] at key ⊢; (repeat (first | refine ⟨_, atI_zero, ?_⟩ | refine ⟨_, atI_of (j := 1) rfl rfl, ?_⟩ | refine ⟨_, atI_of (j := 2) rfl rfl, ?_⟩ | refine ⟨_, atI_of (j := 3) rfl rfl, ?_⟩ | refine ⟨_, atI_of (j := 4) rfl rfl, ?_⟩ | refine ⟨_, atI_of (j := 5) rfl rfl, ?_⟩ | refine ⟨le_szL rfl, ?_⟩ | refine ⟨rfl, rfl, ?_⟩)); exact key
theorem ok_has_input (T : Tx K mg) (D0 : Dfn K mg "has_input" s_has_input ["formula"]) (c_parts : C_parts P w K mg base := by assumption) : ∀ n, C_has_input n P w K mg base
  | 0 => fnx_no D0 (fun rs Q ⟨f, _, h, _⟩ => absurd h.hgt (Nat.not_lt_zero _)) _
  | n + 1 => ok_has_input1 n T c_parts (ok_has_input T D0 c_parts n) D0
end

end K31
set_option Elab.async false
set_option linter.all false
set_option maxRecDepth 100000
set_option maxHeartbeats 4000000
namespace K31
open PySem PySem.Spec PyProof.Rows L2 DL
section
variable {P : Program} {w : World} {K : PySem.W.Frag} {mg : Str → Option Value} {base : Heap}
/-! ### read_fits, fits -/
def FitR (a b r : Sl) : Prop := ∃ (x : Rd) (p : Str), a = .dt x.d ∧ b = .dt (.str p) ∧ x.ok ∧ r = .dt (.bl (x.fits p))
abbrev C_read_fits (P : Program) (w : World) (K : PySem.W.Frag) (mg : Str → Option Value) (base : Heap) : Prop := FnX P w K mg base 1 "read_fits" 2 (tR2 FitR)
theorem ok_read_fits (T : Tx K mg) (D0 : Dfn K mg "read_fits" s_read_fits ["read", "place"]) : C_read_fits P w K mg base := by
  refine FnX.of D0 sc_read_fits rfl mono_tR2 len_tR2 fun f cdv A outer s H E hr => ⟨_, (pds_cons (pds_if (pdt_eq hr.units (pd_ixV (pdv_var (pv 0)) (pdv_of (pd_c pe_int fun _ => .int _)) (fun _ _ => rfl)) (pd_c pe_str fun _ => .str _)) (pds_one (pds_ret (pd_or (pd_eq hr.units (pd_var (pv 1)) (pd_c pe_str fun _ => .str _)) (pd_one (pd_and (pd_eq hr.units (pd_var (pv 1)) (pd_c pe_str fun _ => .str _)) (pd_one (pd_eq hr.units (pd_sliceV (pdv_var (pv 0)) (pdo_some (pd_c pe_int fun _ => .int _)) pdo_none) (pd_tup (pda_cons (pd_c pe_non fun _ => .non) (pda_cons (pd_c pe_non fun _ => .non) pda_nil)))))))))) pds_nil)
      (pds_cons (pds_set (i := 2) sc_read_fits.nd rfl (Or.inl rfl) (pd_ix (pd_ixV (pdv_var (pv 0)) (pdv_of (pd_c pe_int fun _ => .int _)) (fun _ _ => rfl)) (pd_c pe_int fun _ => .int _) (fun _ _ => rfl)))
      (pds_one (pds_ret (pd_or (pd_eq hr.units (pd_var (pv 2)) (pd_c pe_str fun _ => .str _)) (pd_or (pd_and (pd_eq hr.units (pd_var (pv 2)) (pd_c pe_str fun _ => .str _)) (pd_one (pd_eq hr.units (pd_var (pv 1)) (pd_c pe_str fun _ => .str _)))) (pd_one (pd_and (pd_in (pd_var (pv 2)) (pd_tup (pda_cons (pd_c pe_str fun _ => .str _) (pda_cons (pd_c pe_str fun _ => .str _) pda_nil)))) (pd_one (pd_eq hr.units (pd_var (pv 1)) (pd_c pe_str fun _ => .str _))))))))))), fun rs Q h => ?_⟩
  obtain ⟨a, b, r, rfl, ⟨x, p, rfl, rfl, ok, rfl⟩, q⟩ := h
  cases x with
  | nm c r =>
    have hw : ∃ w ds, r = .tup (.str w :: ds) := by
      rcases row_cases ok.2 with ⟨w, rfl, _⟩ | ⟨w, i, rfl, _⟩ <;> exact ⟨_, _, rfl⟩
    obtain ⟨w, ds, rfl⟩ := hw
    rw [Rd.d]
    (repeat (first | refine ⟨_, atI_zero, ?_⟩ | refine ⟨_, atI_of (j := 1) rfl rfl, ?_⟩ | refine ⟨_, atI_of (j := 2) rfl rfl, ?_⟩ | refine ⟨_, atI_of (j := 3) rfl rfl, ?_⟩ | refine ⟨_, atI_of (j := 4) rfl rfl, ?_⟩ | refine ⟨_, atI_of (j := 5) rfl rfl, ?_⟩ | refine ⟨le_szL rfl, ?_⟩ | refine ⟨rfl, rfl, ?_⟩))
    refine or_in (Q := qb Q) q fun q => ?_
    refine if_both (a := decide (w = "by")) (fun e => ?_) fun e => ?_
    · have q' : qb Q (decide (w = "by") && decide (p = "body") || inV (.str w) [.str "foot", .str "last"] && decide (p = "foot")) := q
      rw [e] at q'
      refine if_both (a := decide (p = "body")) (fun e2 => ?_) fun e2 => ?_
      · rw [e2] at q'; exact q'
      · rw [e2] at q'
        (repeat (first | refine ⟨_, atI_zero, ?_⟩ | refine ⟨_, atI_of (j := 1) rfl rfl, ?_⟩ | refine ⟨_, atI_of (j := 2) rfl rfl, ?_⟩ | refine ⟨_, atI_of (j := 3) rfl rfl, ?_⟩ | refine ⟨_, atI_of (j := 4) rfl rfl, ?_⟩ | refine ⟨_, atI_of (j := 5) rfl rfl, ?_⟩ | refine ⟨le_szL rfl, ?_⟩ | refine ⟨rfl, rfl, ?_⟩))
        exact and_in (Q := qb Q) q' fun q => q
    · have q' : qb Q (decide (w = "by") && decide (p = "body") || inV (.str w) [.str "foot", .str "last"] && decide (p = "foot")) := q
      rw [e] at q'
      (repeat (first | refine ⟨_, atI_zero, ?_⟩ | refine ⟨_, atI_of (j := 1) rfl rfl, ?_⟩ | refine ⟨_, atI_of (j := 2) rfl rfl, ?_⟩ | refine ⟨_, atI_of (j := 3) rfl rfl, ?_⟩ | refine ⟨_, atI_of (j := 4) rfl rfl, ?_⟩ | refine ⟨_, atI_of (j := 5) rfl rfl, ?_⟩ | refine ⟨le_szL rfl, ?_⟩ | refine ⟨rfl, rfl, ?_⟩))
      exact and_in (Q := qb Q) q' fun q => q
  | rg c a b =>
    rw [Rd.d]
    (repeat (first | refine ⟨_, atI_zero, ?_⟩ | refine ⟨_, atI_of (j := 1) rfl rfl, ?_⟩ | refine ⟨_, atI_of (j := 2) rfl rfl, ?_⟩ | refine ⟨_, atI_of (j := 3) rfl rfl, ?_⟩ | refine ⟨_, atI_of (j := 4) rfl rfl, ?_⟩ | refine ⟨_, atI_of (j := 5) rfl rfl, ?_⟩ | refine ⟨le_szL rfl, ?_⟩ | refine ⟨rfl, rfl, ?_⟩))
    refine or_in (Q := qb Q) q fun q => ?_
    refine and_in (Q := qb Q) q fun q => ?_
    rcases lim_cases ok.2.1 with rfl | ⟨i, rfl⟩ <;> rcases lim_cases ok.2.2 with rfl | ⟨j, rfl⟩ <;> ((repeat (first | refine ⟨_, atI_zero, ?_⟩ | refine ⟨_, atI_of (j := 1) rfl rfl, ?_⟩ | refine ⟨_, atI_of (j := 2) rfl rfl, ?_⟩ | refine ⟨_, atI_of (j := 3) rfl rfl, ?_⟩ | refine ⟨_, atI_of (j := 4) rfl rfl, ?_⟩ | refine ⟨_, atI_of (j := 5) rfl rfl, ?_⟩ | refine ⟨le_szL rfl, ?_⟩ | refine ⟨rfl, rfl, ?_⟩)); exact q)
def FitF (n : Nat) (a b r : Sl) : Prop := ∃ (f : Fm) (p : Str), a = .dt f.d ∧ b = .dt (.str p) ∧ f.Sm n ∧ (∀ x ∈ f.rds, x.ok) ∧ r = .dt (.bl (f.fits p))
abbrev C_fits (n : Nat) (P : Program) (w : World) (K : PySem.W.Frag) (mg : Str → Option Value) (base : Heap) : Prop := FnX P w K mg base ((3 + n) + 1) "fits" 2 (tR2 (FitF n))
theorem ok_fits (n : Nat) (T : Tx K mg) (D0 : Dfn K mg "fits" s_fits ["formula", "place"]) (c_has_input : C_has_input n P w K mg base) (c_reads : C_reads n P w K mg base) (c_read_fits : C_read_fits P w K mg base := by assumption) : C_fits n P w K mg base := by
  refine FnX.of (k := 3 + n) D0 sc_fits rfl mono_tR2 len_tR2 fun f cdv A outer s H E hr => ⟨_, (pds_cons (pds_if (pdt_eq hr.units (pd_ixV (pdv_var (pv 0)) (pdv_of (pd_c pe_int fun _ => .int _)) (fun _ _ => rfl)) (pd_c pe_str fun _ => .str _)) (pds_one (pds_ret (pd_in (pd_var (pv 1)) (pd_tup (pda_cons (pd_c pe_str fun _ => .str _) (pda_cons (pd_c pe_str fun _ => .str _) pda_nil)))))) pds_nil)
      (pds_one (pds_ret (pd_and (pd_not (pd_fn c_has_input (hr.mono (by omega)) (by rfl) (pda_cons (pd_var (pv 0)) pda_nil))) (pd_one (pd_all rfl (by rfl) T.b_all (pda_cons (pd_frz [1] (pd_lc rfl sc_fits.nd (pdi_over (pd_fn c_reads (hr.mono (by omega)) (by rfl) (pda_cons (pd_var (pv 0)) pda_nil))) (blkOk_by (own := [("read", 2)]) (N := ["formula", "place", "read"]) (sc := defScope s_fits) (by decide +kernel)) rfl (fun _ _ _ _ _ => (pdg_name (pg_name (i := 2) sc_fits.nd rfl (Or.inl rfl)))) (fun _ _ _ _ _ => pdts_nil) (fun _ _ _ _ _ => (pd_fn c_read_fits (hr.mono (by omega)) (by rfl) (pda_cons (pd_var (pv 2)) (pda_cons (pd_var (pv 1)) pda_nil)))))) pda_nil))))))), fun rs Q h => ?_⟩
  obtain ⟨a, b, r, rfl, ⟨f, p, rfl, rfl, sm, ok, rfl⟩, q⟩ := h
  have z1 := sizeLine_eq
  have key : (f.fits p = (!f.hasInp && f.rds.all fun r => r.fits p)) → ∀ D : EndsD, (∀ δ, D.rt (.dt (.bl (f.fits p))) δ) → tdRet (tdAnd (tdNot (tdCall (tFm (fun f => f.Sm n) fun f => .dt (.bl f.hasInp)) (tdCons (tdVar 0) tdNil)))
      (tdCB (f1 gAll) (tdCons (tdFrz [1] (tdLc (tdOver (tdCall (tFm (fun f => f.Sm n) fun f => .ol (f.rds.map Rd.d)) (tdCons (tdVar 0) tdNil))) (gdName 2) tdYes (tdCall (tR2 FitR) (tdCons (tdVar 2) (tdCons (tdVar 1) tdNil))) [2])) tdNil))) D [.dt f.d, .dt (.str p), .no] := by
    intro el D hD
    refine ⟨f, rfl, sm, ?_⟩
    rw [el] at hD
    dsimp only
    cases e : f.hasInp with
    | true => rw [e] at hD; exact hD _
    | false =>
      rw [e] at hD
      refine if_yes rfl ?_
      refine ⟨f, rfl, sm, by rw [List.length_map]; have := rds_sz f; have := sm.sz; omega, ?_⟩
      refine comp_map Rd.d (fun x => .bl (x.fits p)) _ _ _ (fun x hx C hC => ⟨_, _, _, rfl, ⟨x, p, rfl, rfl, ok x hx, rfl⟩, hC _ rfl⟩) ?_
      have e : blsOf ([] ++ f.rds.map fun x => DL.D.bl (x.fits p)) = some (f.rds.map fun x => x.fits p) := by
        have z := blsOf_map (f.rds.map fun x => x.fits p)
        rw [List.map_map] at z
        exact z
      show match blsOf ([] ++ f.rds.map fun x => DL.D.bl (x.fits p)) with
        | some bs => D.rt (.dt (.bl (bs.all id))) _
        | none => False
      rw [e]
      show D.rt (.dt (.bl ((f.rds.map fun x => x.fits p).all id))) _
      rw [List.all_map]
      exact hD _
  have q' : ∀ δ : List Sl, ({ nx := fun _ => Q (.dt .non), rt := fun r _ => Q r } : EndsD).rt (.dt (.bl (f.fits p))) δ := fun _ => q
  cases f with
  | inp => rw [Fm.d]; (repeat (first | refine ⟨_, atI_zero, ?_⟩ | refine ⟨_, atI_of (j := 1) rfl rfl, ?_⟩ | refine ⟨_, atI_of (j := 2) rfl rfl, ?_⟩ | refine ⟨_, atI_of (j := 3) rfl rfl, ?_⟩ | refine ⟨_, atI_of (j := 4) rfl rfl, ?_⟩ | refine ⟨_, atI_of (j := 5) rfl rfl, ?_⟩ | refine ⟨le_szL rfl, ?_⟩ | refine ⟨rfl, rfl, ?_⟩)); exact q
  | node g xs =>
    have key := key rfl _ q'
    rw [Fm.d] at key ⊢
    cases g with
    | mn w => cases w <;> ((repeat (first | refine ⟨_, atI_zero, ?_⟩ | refine ⟨_, atI_of (j := 1) rfl rfl, ?_⟩ | refine ⟨_, atI_of (j := 2) rfl rfl, ?_⟩ | refine ⟨_, atI_of (j := 3) rfl rfl, ?_⟩ | refine ⟨_, atI_of (j := 4) rfl rfl, ?_⟩ | refine ⟨_, atI_of (j := 5) rfl rfl, ?_⟩ | refine ⟨le_szL rfl, ?_⟩ | refine ⟨rfl, rfl, ?_⟩)); exact key)
    | _ => (repeat (first | refine ⟨_, atI_zero, ?_⟩ | refine ⟨_, atI_of (j := 1) rfl rfl, ?_⟩ | refine ⟨_, atI_of (j := 2) rfl rfl, ?_⟩ | refine ⟨_, atI_of (j := 3) rfl rfl, ?_⟩ | refine ⟨_, atI_of (j := 4) rfl rfl, ?_⟩ | refine ⟨_, atI_of (j := 5) rfl rfl, ?_⟩ | refine ⟨le_szL rfl, ?_⟩ | refine ⟨rfl, rfl, ?_⟩)); exact key
  | rg w c a b => have key := key rfl _ q'; rw [Fm.d] at key ⊢; cases w <;> ((repeat (first | refine ⟨_, atI_zero, ?_⟩ | refine ⟨_, atI_of (j := 1) rfl rfl, ?_⟩ | refine ⟨_, atI_of (j := 2) rfl rfl, ?_⟩ | refine ⟨_, atI_of (j := 3) rfl rfl, ?_⟩ | refine ⟨_, atI_of (j := 4) rfl rfl, ?_⟩ | refine ⟨_, atI_of (j := 5) rfl rfl, ?_⟩ | refine ⟨le_szL rfl, ?_⟩ | refine ⟨rfl, rfl, ?_⟩)); exact key)
  | _ => have key := key rfl _ q'; rw [Fm.d] at key ⊢; (repeat (first | refine ⟨_, atI_zero, ?_⟩ | refine ⟨_, atI_of (j := 1) rfl rfl, ?_⟩ | refine ⟨_, atI_of (j := 2) rfl rfl, ?_⟩ | refine ⟨_, atI_of (j := 3) rfl rfl, ?_⟩ | refine ⟨_, atI_of (j := 4) rfl rfl, ?_⟩ | refine ⟨_, atI_of (j := 5) rfl rfl, ?_⟩ | refine ⟨le_szL rfl, ?_⟩ | refine ⟨rfl, rfl, ?_⟩)); exact key
/-! ### is_formula of what is one -/
abbrev C_is_formula (n : Nat) (P : Program) (w : World) (K : PySem.W.Frag) (mg : Str → Option Value) (base : Heap) : Prop := FnX P w K mg base (4 + 3 * n) "is_formula" 1 (tFm (fun f => f.Sm n ∧ f.ok) fun f => .dt (.bl true))
def tAre (n : Nat) : TF := fun rs Q => ∃ xs : List Fm, rs = [.dt (.tup (fdA xs))] ∧ xs.length ≤ 100000 ∧ (∀ x ∈ xs, x.Sm n ∧ x.ok) ∧ Q (.dt (.bl true))
abbrev C_are_formulas (n : Nat) (P : Program) (w : World) (K : PySem.W.Frag) (mg : Str → Option Value) (base : Heap) : Prop := FnX P w K mg base (4 + 3 * n + 1) "are_formulas" 1 (tAre n)
theorem ok_are_formulas (n : Nat) (T : Tx K mg) (D0 : Dfn K mg "are_formulas" s_are_formulas ["thing"]) (c_is_formula : C_is_formula n P w K mg base) : C_are_formulas n P w K mg base := by
  refine FnX.of (k := 4 + 3 * n) D0 sc_are_formulas rfl (fun rs Q Q' ⟨xs, a, b, c, d⟩ w => ⟨xs, a, b, c, w _ d⟩) (fun rs Q ⟨xs, a, _⟩ => by rw [a]; rfl) fun f cdv A outer s H E hr => ⟨_, (pds_one (pds_ret (pd_and (pd_isi .tuple (by rfl) T.b_isinstance (by rfl) T.b_tuple boot_tupleT (pd_var (pv 0))) (pd_one (pd_all rfl (by rfl) T.b_all (pda_cons (pd_lc rfl sc_are_formulas.nd (pdi_over (pd_var (pv 0))) (blkOk_by (own := [("one", 1)]) (N := ["thing", "one"]) (sc := defScope s_are_formulas) (by decide +kernel)) rfl (fun _ _ _ _ _ => (pdg_name (pg_name (i := 1) sc_are_formulas.nd rfl (Or.inl rfl)))) (fun _ _ _ _ _ => pdts_nil) (fun _ _ _ _ _ => (pd_fn c_is_formula (hr.mono (by omega)) (by rfl) (pda_cons (pd_var (pv 1)) pda_nil)))) pda_nil)))))), fun rs Q h => ?_⟩
  obtain ⟨xs, rfl, hl, hx, q⟩ := h
  have z1 := sizeLine_eq
  rw [fdA_map]
  refine ⟨rfl, ?_⟩
  refine if_yes rfl ?_
  refine ⟨by rw [List.length_map]; omega, ?_⟩
  refine comp_map Fm.d (fun _ => .bl true) _ _ _ (fun x hm C hC => ⟨x, rfl, hx x hm, hC _ rfl⟩) ?_
  have e : blsOf ([] ++ xs.map fun _ => DL.D.bl true) = some (xs.map fun _ => true) := by
    have z := blsOf_map (xs.map fun _ => true)
    rw [List.map_map] at z
    exact z
  show match blsOf ([] ++ xs.map fun _ => DL.D.bl true) with
    | some bs => Q (.dt (.bl (bs.all id)))
    | none => False
  rw [e]
  show Q (.dt (.bl ((xs.map fun _ => true).all id)))
  rw [List.map_const', all_true]
  exact q
def Fm.long : Fm → Prop
  | .node (.mn _) _ => False
  | .node _ _ => True
  | _ => False
abbrev C_is_long_formula (n : Nat) (P : Program) (w : World) (K : PySem.W.Frag) (mg : Str → Option Value) (base : Heap) : Prop := FnX P w K mg base (4 + 3 * n + 2) "is_long_formula" 1 (tFm (fun f => f.Sm (n + 1) ∧ f.ok ∧ Fm.long f) fun f => .dt (.bl true))
theorem ok_is_long_formula (n : Nat) (T : Tx K mg) (D0 : Dfn K mg "is_long_formula" s_is_long_formula ["thing"]) (c_is_formula : C_is_formula n P w K mg base) (c_are_formulas : C_are_formulas n P w K mg base) (c_is_number : C_is_number P w K mg base := by assumption) : C_is_long_formula n P w K mg base := by
  refine FnX.of (k := 4 + 3 * n + 1) D0 sc_is_long_formula rfl mono_tFm len_tFm fun f cdv A outer s H E hr => ⟨_, (pds_cons (pds_if (pdt_eq hr.units (pd_ixV (pdv_var (pv 0)) (pdv_of (pd_c pe_int fun _ => .int _)) (fun _ _ => rfl)) (pd_c pe_str fun _ => .str _)) (pds_one (pds_ret (pd_and (pd_eq hr.units (pd_lenV (by rfl) T.b_len (pdv_var (pv 0))) (pd_c pe_int fun _ => .int _)) (pd_and (pd_fn c_is_number (hr.mono (by omega)) (by rfl) (pda_cons (pd_ixV (pdv_var (pv 0)) (pdv_of (pd_c pe_int fun _ => .int _)) (fun _ _ => rfl)) pda_nil)) (pd_one (pd_fn c_is_formula (hr.mono (by omega)) (by rfl) (pda_cons (pd_ixV (pdv_var (pv 0)) (pdv_of (pd_c pe_int fun _ => .int _)) (fun _ _ => rfl)) pda_nil))))))) pds_nil)
      (pds_cons (pds_if (pdt_eq hr.units (pd_ixV (pdv_var (pv 0)) (pdv_of (pd_c pe_int fun _ => .int _)) (fun _ _ => rfl)) (pd_c pe_str fun _ => .str _)) (pds_one (pds_ret (pd_and (pd_eq hr.units (pd_lenV (by rfl) T.b_len (pdv_var (pv 0))) (pd_c pe_int fun _ => .int _)) (pd_one (pd_fn c_are_formulas (hr.mono (by omega)) (by rfl) (pda_cons (pd_sliceV (pdv_var (pv 0)) (pdo_some (pd_c pe_int fun _ => .int _)) pdo_none) pda_nil)))))) pds_nil)
      (pds_cons (pds_if (PDW.t (pdw_or (pdt_ne hr.units (pd_ixV (pdv_var (pv 0)) (pdv_of (pd_c pe_int fun _ => .int _)) (fun _ _ => rfl)) (pd_c pe_str fun _ => .str _)) (pdw_or (pdt_ne hr.units (pd_lenV (by rfl) T.b_len (pdv_var (pv 0))) (pd_c pe_int fun _ => .int _)) (pdw_or (pdt_not (pdt_b (pd_isi .str (by rfl) T.b_isinstance (by rfl) T.b_str boot_strT (pd_ixV (pdv_var (pv 0)) (pdv_of (pd_c pe_int fun _ => .int _)) (fun _ _ => rfl))))) (pdw_or1 (pdt_notIn (pd_ixV (pdv_var (pv 0)) (pdv_of (pd_c pe_int fun _ => .int _)) (fun _ _ => rfl)) (pd_gtup T.g_SIGNS T.t_SIGNS (fun _ => (.cons (.str _) (.cons (.str _) (.cons (.str _) (.cons (.str _) (.cons (.str _) (.cons (.str _) .nil))))))) (by rfl)))))))) (pds_one (pds_ret (pd_c pe_bl fun _ => .bl _))) pds_nil)
      (pds_one (pds_ret (pd_and (pd_fn c_is_formula (hr.mono (by omega)) (by rfl) (pda_cons (pd_ixV (pdv_var (pv 0)) (pdv_of (pd_c pe_int fun _ => .int _)) (fun _ _ => rfl)) pda_nil)) (pd_one (pd_fn c_are_formulas (hr.mono (by omega)) (by rfl) (pda_cons (pd_sliceV (pdv_var (pv 0)) (pdo_some (pd_c pe_int fun _ => .int _)) pdo_none) pda_nil))))))))), fun rs Q h => ?_⟩
  obtain ⟨f, rfl, ⟨sm, ok, lg⟩, q⟩ := h
  dsimp only at q
  cases f with
  | node g xs =>
    have sp := sm.parts
    have wf := sm.wf
    rw [Fm.wf] at wf
    rw [Fm.ok] at ok
    have ok2 := okA_mem ok.2
    rw [Fm.d]
    cases g with
    | mn w => exact lg.elim
    | tm i =>
      obtain ⟨⟨a, rfl⟩, _⟩ := wf
      have hi : isNum (.int i) = true := ok.1
      (repeat (first | refine ⟨_, atI_zero, ?_⟩ | refine ⟨_, atI_of (j := 1) rfl rfl, ?_⟩ | refine ⟨_, atI_of (j := 2) rfl rfl, ?_⟩ | refine ⟨_, atI_of (j := 3) rfl rfl, ?_⟩ | refine ⟨_, atI_of (j := 4) rfl rfl, ?_⟩ | refine ⟨_, atI_of (j := 5) rfl rfl, ?_⟩ | refine ⟨le_szL rfl, ?_⟩ | refine ⟨rfl, rfl, ?_⟩))
      refine ⟨rfl, if_yes hi ?_⟩
      (repeat (first | refine ⟨_, atI_zero, ?_⟩ | refine ⟨_, atI_of (j := 1) rfl rfl, ?_⟩ | refine ⟨_, atI_of (j := 2) rfl rfl, ?_⟩ | refine ⟨_, atI_of (j := 3) rfl rfl, ?_⟩ | refine ⟨_, atI_of (j := 4) rfl rfl, ?_⟩ | refine ⟨_, atI_of (j := 5) rfl rfl, ?_⟩ | refine ⟨le_szL rfl, ?_⟩ | refine ⟨rfl, rfl, ?_⟩))
      exact ⟨a, rfl, ⟨sp a (by simp [Fm.parts]), ok2 a (by simp)⟩, q⟩
    | ov =>
      obtain ⟨⟨a, b, rfl⟩, _⟩ := wf
      (repeat (first | refine ⟨_, atI_zero, ?_⟩ | refine ⟨_, atI_of (j := 1) rfl rfl, ?_⟩ | refine ⟨_, atI_of (j := 2) rfl rfl, ?_⟩ | refine ⟨_, atI_of (j := 3) rfl rfl, ?_⟩ | refine ⟨_, atI_of (j := 4) rfl rfl, ?_⟩ | refine ⟨_, atI_of (j := 5) rfl rfl, ?_⟩ | refine ⟨le_szL rfl, ?_⟩ | refine ⟨rfl, rfl, ?_⟩))
      refine if_yes rfl ?_
      exact ⟨[a, b], rfl, Nat.le_of_ble_eq_true rfl, fun x hx => ⟨sp x hx, ok2 x hx⟩, q⟩
    | cs s =>
      obtain ⟨⟨a, b, c, d, rfl⟩, _⟩ := wf
      (repeat (first | refine ⟨_, atI_zero, ?_⟩ | refine ⟨_, atI_of (j := 1) rfl rfl, ?_⟩ | refine ⟨_, atI_of (j := 2) rfl rfl, ?_⟩ | refine ⟨_, atI_of (j := 3) rfl rfl, ?_⟩ | refine ⟨_, atI_of (j := 4) rfl rfl, ?_⟩ | refine ⟨_, atI_of (j := 5) rfl rfl, ?_⟩ | refine ⟨le_szL rfl, ?_⟩ | refine ⟨rfl, rfl, ?_⟩))
      refine ⟨rfl, ?_⟩
      (repeat (first | refine ⟨_, atI_zero, ?_⟩ | refine ⟨_, atI_of (j := 1) rfl rfl, ?_⟩ | refine ⟨_, atI_of (j := 2) rfl rfl, ?_⟩ | refine ⟨_, atI_of (j := 3) rfl rfl, ?_⟩ | refine ⟨_, atI_of (j := 4) rfl rfl, ?_⟩ | refine ⟨_, atI_of (j := 5) rfl rfl, ?_⟩ | refine ⟨le_szL rfl, ?_⟩ | refine ⟨rfl, rfl, ?_⟩))
      refine if_no (by cases s <;> rfl) ?_
      (repeat (first | refine ⟨_, atI_zero, ?_⟩ | refine ⟨_, atI_of (j := 1) rfl rfl, ?_⟩ | refine ⟨_, atI_of (j := 2) rfl rfl, ?_⟩ | refine ⟨_, atI_of (j := 3) rfl rfl, ?_⟩ | refine ⟨_, atI_of (j := 4) rfl rfl, ?_⟩ | refine ⟨_, atI_of (j := 5) rfl rfl, ?_⟩ | refine ⟨le_szL rfl, ?_⟩ | refine ⟨rfl, rfl, ?_⟩))
      refine ⟨a, rfl, ⟨sp a (by simp [Fm.parts]), ok2 a (by simp)⟩, ?_⟩
      refine if_yes rfl ?_
      exact ⟨[b, c, d], rfl, Nat.le_of_ble_eq_true rfl, fun x hx => ⟨sp x (List.mem_cons_of_mem _ hx), ok2 x (List.mem_cons_of_mem _ hx)⟩, q⟩
  | _ => exact lg.elim
end

end K31
set_option Elab.async false
set_option linter.all false
set_option maxRecDepth 100000
set_option maxHeartbeats 4000000
namespace K31
open PySem PySem.Spec PyProof.Rows L2 DL
section
variable {P : Program} {w : World} {K : PySem.W.Frag} {mg : Str → Option Value} {base : Heap}
theorem ok_is_formula1 (n : Nat) (T : Tx K mg) (c_is_number : C_is_number P w K mg base) (c_is_name : C_is_name P w K mg base) (c_is_range : C_is_range P w K mg base) (c_are_formulas : C_are_formulas n P w K mg base) (c_is_long_formula : C_is_long_formula n P w K mg base) (D0 : Dfn K mg "is_formula" s_is_formula ["thing"]) : C_is_formula (n + 1) P w K mg base := by
  show FnX P w K mg base (4 + 3 * n + 2 + 1) "is_formula" 1 _
  refine FnX.of (k := 4 + 3 * n + 2) D0 sc_is_formula rfl mono_tFm len_tFm fun f cdv A outer s H E hr => ⟨_, (pds_cons (pds_if (PDW.t (pdw_or (pdt_not (pdt_b (pd_isi .tuple (by rfl) T.b_isinstance (by rfl) T.b_tuple boot_tupleT (pd_var (pv 0))))) (pdw_or (pdt_eq hr.units (pd_lenV (by rfl) T.b_len (pdv_var (pv 0))) (pd_c pe_int fun _ => .int _)) (pdw_or1 (pdt_not (pdt_b (pd_isi .str (by rfl) T.b_isinstance (by rfl) T.b_str boot_strT (pd_ixV (pdv_var (pv 0)) (pdv_of (pd_c pe_int fun _ => .int _)) (fun _ _ => rfl))))))))) (pds_one (pds_ret (pd_c pe_bl fun _ => .bl _))) pds_nil)
      (pds_cons (pds_if (pdt_in (pd_ixV (pdv_var (pv 0)) (pdv_of (pd_c pe_int fun _ => .int _)) (fun _ _ => rfl)) (pd_tup (pda_cons (pd_c pe_str fun _ => .str _) (pda_cons (pd_c pe_str fun _ => .str _) pda_nil)))) (pds_one (pds_ret (pd_eq hr.units (pd_lenV (by rfl) T.b_len (pdv_var (pv 0))) (pd_c pe_int fun _ => .int _)))) pds_nil)
      (pds_cons (pds_if (pdt_eq hr.units (pd_ixV (pdv_var (pv 0)) (pdv_of (pd_c pe_int fun _ => .int _)) (fun _ _ => rfl)) (pd_c pe_str fun _ => .str _)) (pds_one (pds_ret (pd_and (pd_eq hr.units (pd_lenV (by rfl) T.b_len (pdv_var (pv 0))) (pd_c pe_int fun _ => .int _)) (pd_one (pd_fn c_is_number (hr.mono (by omega)) (by rfl) (pda_cons (pd_ixV (pdv_var (pv 0)) (pdv_of (pd_c pe_int fun _ => .int _)) (fun _ _ => rfl)) pda_nil)))))) pds_nil)
      (pds_cons (pds_if (pdt_in (pd_ixV (pdv_var (pv 0)) (pdv_of (pd_c pe_int fun _ => .int _)) (fun _ _ => rfl)) (pd_tup (pda_cons (pd_c pe_str fun _ => .str _) (pda_cons (pd_c pe_str fun _ => .str _) (pda_cons (pd_c pe_str fun _ => .str _) pda_nil))))) (pds_one (pds_ret (pd_and (pd_eq hr.units (pd_lenV (by rfl) T.b_len (pdv_var (pv 0))) (pd_c pe_int fun _ => .int _)) (pd_one (pd_fn c_are_formulas (hr.mono (by omega)) (by rfl) (pda_cons (pd_ixV (pdv_var (pv 0)) (pdv_of (pd_c pe_int fun _ => .int _)) (fun _ _ => rfl)) pda_nil)))))) pds_nil)
      (pds_cons (pds_if (pdt_in (pd_ixV (pdv_var (pv 0)) (pdv_of (pd_c pe_int fun _ => .int _)) (fun _ _ => rfl)) (pd_gtup T.g_OVER_RANGES T.t_OVER_RANGES (fun _ => (.cons (.str _) (.cons (.str _) (.cons (.str _) (.cons (.str _) .nil))))) (by rfl))) (pds_one (pds_ret (pd_and (pd_eq hr.units (pd_lenV (by rfl) T.b_len (pdv_var (pv 0))) (pd_c pe_int fun _ => .int _)) (pd_one (pd_fn c_is_range (hr.mono (by omega)) (by rfl) (pda_cons (pd_ixV (pdv_var (pv 0)) (pdv_of (pd_c pe_int fun _ => .int _)) (fun _ _ => rfl)) pda_nil)))))) pds_nil)
      (pds_one (pds_ret (pd_or (pd_fn c_is_name (hr.mono (by omega)) (by rfl) (pda_cons (pd_var (pv 0)) pda_nil)) (pd_one (pd_fn c_is_long_formula (hr.mono (by omega)) (by rfl) (pda_cons (pd_var (pv 0)) pda_nil))))))))))), fun rs Q h => ?_⟩
  obtain ⟨f, rfl, ⟨sm, ok⟩, q⟩ := h
  dsimp only at q
  cases f with
  | num i =>
    rw [Fm.ok] at ok
    rw [Fm.d]
    refine ⟨rfl, ?_⟩
    (repeat (first | refine ⟨_, atI_zero, ?_⟩ | refine ⟨_, atI_of (j := 1) rfl rfl, ?_⟩ | refine ⟨_, atI_of (j := 2) rfl rfl, ?_⟩ | refine ⟨_, atI_of (j := 3) rfl rfl, ?_⟩ | refine ⟨_, atI_of (j := 4) rfl rfl, ?_⟩ | refine ⟨_, atI_of (j := 5) rfl rfl, ?_⟩ | refine ⟨le_szL rfl, ?_⟩ | refine ⟨rfl, rfl, ?_⟩))
    refine ⟨rfl, ?_⟩
    (repeat (first | refine ⟨_, atI_zero, ?_⟩ | refine ⟨_, atI_of (j := 1) rfl rfl, ?_⟩ | refine ⟨_, atI_of (j := 2) rfl rfl, ?_⟩ | refine ⟨_, atI_of (j := 3) rfl rfl, ?_⟩ | refine ⟨_, atI_of (j := 4) rfl rfl, ?_⟩ | refine ⟨_, atI_of (j := 5) rfl rfl, ?_⟩ | refine ⟨le_szL rfl, ?_⟩ | refine ⟨rfl, rfl, ?_⟩))
    refine ⟨rfl, ?_⟩
    show Q (.dt (.bl (isNum (.int i))))
    rw [ok]; exact q
  | emp => rw [Fm.d]; refine ⟨rfl, ?_⟩; (repeat (first | refine ⟨_, atI_zero, ?_⟩ | refine ⟨_, atI_of (j := 1) rfl rfl, ?_⟩ | refine ⟨_, atI_of (j := 2) rfl rfl, ?_⟩ | refine ⟨_, atI_of (j := 3) rfl rfl, ?_⟩ | refine ⟨_, atI_of (j := 4) rfl rfl, ?_⟩ | refine ⟨_, atI_of (j := 5) rfl rfl, ?_⟩ | refine ⟨le_szL rfl, ?_⟩ | refine ⟨rfl, rfl, ?_⟩)); refine ⟨rfl, ?_⟩; (repeat (first | refine ⟨_, atI_zero, ?_⟩ | refine ⟨_, atI_of (j := 1) rfl rfl, ?_⟩ | refine ⟨_, atI_of (j := 2) rfl rfl, ?_⟩ | refine ⟨_, atI_of (j := 3) rfl rfl, ?_⟩ | refine ⟨_, atI_of (j := 4) rfl rfl, ?_⟩ | refine ⟨_, atI_of (j := 5) rfl rfl, ?_⟩ | refine ⟨le_szL rfl, ?_⟩ | refine ⟨rfl, rfl, ?_⟩)); exact q
  | inp => rw [Fm.d]; refine ⟨rfl, ?_⟩; (repeat (first | refine ⟨_, atI_zero, ?_⟩ | refine ⟨_, atI_of (j := 1) rfl rfl, ?_⟩ | refine ⟨_, atI_of (j := 2) rfl rfl, ?_⟩ | refine ⟨_, atI_of (j := 3) rfl rfl, ?_⟩ | refine ⟨_, atI_of (j := 4) rfl rfl, ?_⟩ | refine ⟨_, atI_of (j := 5) rfl rfl, ?_⟩ | refine ⟨le_szL rfl, ?_⟩ | refine ⟨rfl, rfl, ?_⟩)); refine ⟨rfl, ?_⟩; (repeat (first | refine ⟨_, atI_zero, ?_⟩ | refine ⟨_, atI_of (j := 1) rfl rfl, ?_⟩ | refine ⟨_, atI_of (j := 2) rfl rfl, ?_⟩ | refine ⟨_, atI_of (j := 3) rfl rfl, ?_⟩ | refine ⟨_, atI_of (j := 4) rfl rfl, ?_⟩ | refine ⟨_, atI_of (j := 5) rfl rfl, ?_⟩ | refine ⟨le_szL rfl, ?_⟩ | refine ⟨rfl, rfl, ?_⟩)); exact q
  | nm c r =>
    rw [Fm.ok] at ok
    have pc := part_plain ok.1
    have pr := row_plain ok.2
    have pn : Pl (.tup [.str "name", c, r]) := by
      show (true && (plainD c && (plainD r && true))) = true
      rw [pc, pr]; rfl
    have en : isName (.tup [.str "name", c, r]) = true := by
      show (true && (isPart c && isRow r)) = true
      rw [ok.1, ok.2]; rfl
    rw [Fm.d]
    refine ⟨rfl, ?_⟩
    (repeat (first | refine ⟨_, atI_zero, ?_⟩ | refine ⟨_, atI_of (j := 1) rfl rfl, ?_⟩ | refine ⟨_, atI_of (j := 2) rfl rfl, ?_⟩ | refine ⟨_, atI_of (j := 3) rfl rfl, ?_⟩ | refine ⟨_, atI_of (j := 4) rfl rfl, ?_⟩ | refine ⟨_, atI_of (j := 5) rfl rfl, ?_⟩ | refine ⟨le_szL rfl, ?_⟩ | refine ⟨rfl, rfl, ?_⟩))
    refine ⟨rfl, ?_⟩
    (repeat (first | refine ⟨_, atI_zero, ?_⟩ | refine ⟨_, atI_of (j := 1) rfl rfl, ?_⟩ | refine ⟨_, atI_of (j := 2) rfl rfl, ?_⟩ | refine ⟨_, atI_of (j := 3) rfl rfl, ?_⟩ | refine ⟨_, atI_of (j := 4) rfl rfl, ?_⟩ | refine ⟨_, atI_of (j := 5) rfl rfl, ?_⟩ | refine ⟨le_szL rfl, ?_⟩ | refine ⟨rfl, rfl, ?_⟩))
    refine ⟨pn, if_yes en q⟩
  | rg w c a b =>
    rw [Fm.ok] at ok
    have pc := part_plain ok.1
    have pa := lim_plain ok.2.1
    have pb := lim_plain ok.2.2
    have pn : Pl (.tup [.str "rows", c, a, b]) := by
      show (true && (plainD c && (plainD a && (plainD b && true)))) = true
      rw [pc, pa, pb]; rfl
    have en : isRange (.tup [.str "rows", c, a, b]) = true := by
      show (true && (isPart c && (isLim a && isLim b))) = true
      rw [ok.1, ok.2.1, ok.2.2]; rfl
    rw [Fm.d]
    cases w <;> (
      refine ⟨rfl, ?_⟩
      (repeat (first | refine ⟨_, atI_zero, ?_⟩ | refine ⟨_, atI_of (j := 1) rfl rfl, ?_⟩ | refine ⟨_, atI_of (j := 2) rfl rfl, ?_⟩ | refine ⟨_, atI_of (j := 3) rfl rfl, ?_⟩ | refine ⟨_, atI_of (j := 4) rfl rfl, ?_⟩ | refine ⟨_, atI_of (j := 5) rfl rfl, ?_⟩ | refine ⟨le_szL rfl, ?_⟩ | refine ⟨rfl, rfl, ?_⟩))
      refine ⟨rfl, ?_⟩
      (repeat (first | refine ⟨_, atI_zero, ?_⟩ | refine ⟨_, atI_of (j := 1) rfl rfl, ?_⟩ | refine ⟨_, atI_of (j := 2) rfl rfl, ?_⟩ | refine ⟨_, atI_of (j := 3) rfl rfl, ?_⟩ | refine ⟨_, atI_of (j := 4) rfl rfl, ?_⟩ | refine ⟨_, atI_of (j := 5) rfl rfl, ?_⟩ | refine ⟨le_szL rfl, ?_⟩ | refine ⟨rfl, rfl, ?_⟩))
      refine ⟨pn, ?_⟩
      show Q (.dt (.bl (isRange (.tup [.str "rows", c, a, b]))))
      rw [en]; exact q)
  | node g xs =>
    have sp := sm.parts
    have pl := Nat.le_trans (parts_len (f := .node g xs)) sm.sz
    have wf := sm.wf
    rw [Fm.wf] at wf
    have ok0 := ok
    rw [Fm.ok] at ok
    have ok2 := okA_mem ok.2
    have key : Fm.long (.node g xs) → tFm (fun f => f.Sm (n + 1) ∧ f.ok ∧ Fm.long f) (fun f => .dt (.bl true)) [.dt (Fm.node g xs).d] Q := fun lg => ⟨_, rfl, ⟨sm, ok0, lg⟩, q⟩
    have pn : Pl (Fm.node g xs).d := ok_plain _ ok0
    rw [Fm.d] at key pn ⊢
    cases g with
    | mn w =>
      cases w <;> (
        refine ⟨rfl, ?_⟩
        (repeat (first | refine ⟨_, atI_zero, ?_⟩ | refine ⟨_, atI_of (j := 1) rfl rfl, ?_⟩ | refine ⟨_, atI_of (j := 2) rfl rfl, ?_⟩ | refine ⟨_, atI_of (j := 3) rfl rfl, ?_⟩ | refine ⟨_, atI_of (j := 4) rfl rfl, ?_⟩ | refine ⟨_, atI_of (j := 5) rfl rfl, ?_⟩ | refine ⟨le_szL rfl, ?_⟩ | refine ⟨rfl, rfl, ?_⟩))
        refine ⟨rfl, ?_⟩
        (repeat (first | refine ⟨_, atI_zero, ?_⟩ | refine ⟨_, atI_of (j := 1) rfl rfl, ?_⟩ | refine ⟨_, atI_of (j := 2) rfl rfl, ?_⟩ | refine ⟨_, atI_of (j := 3) rfl rfl, ?_⟩ | refine ⟨_, atI_of (j := 4) rfl rfl, ?_⟩ | refine ⟨_, atI_of (j := 5) rfl rfl, ?_⟩ | refine ⟨le_szL rfl, ?_⟩ | refine ⟨rfl, rfl, ?_⟩))
        exact ⟨xs, rfl, pl, fun x hx => ⟨sp x hx, ok2 x hx⟩, q⟩)
    | tm i =>
      obtain ⟨⟨a, rfl⟩, _⟩ := wf
      refine ⟨rfl, ?_⟩
      (repeat (first | refine ⟨_, atI_zero, ?_⟩ | refine ⟨_, atI_of (j := 1) rfl rfl, ?_⟩ | refine ⟨_, atI_of (j := 2) rfl rfl, ?_⟩ | refine ⟨_, atI_of (j := 3) rfl rfl, ?_⟩ | refine ⟨_, atI_of (j := 4) rfl rfl, ?_⟩ | refine ⟨_, atI_of (j := 5) rfl rfl, ?_⟩ | refine ⟨le_szL rfl, ?_⟩ | refine ⟨rfl, rfl, ?_⟩))
      refine ⟨rfl, ?_⟩
      (repeat (first | refine ⟨_, atI_zero, ?_⟩ | refine ⟨_, atI_of (j := 1) rfl rfl, ?_⟩ | refine ⟨_, atI_of (j := 2) rfl rfl, ?_⟩ | refine ⟨_, atI_of (j := 3) rfl rfl, ?_⟩ | refine ⟨_, atI_of (j := 4) rfl rfl, ?_⟩ | refine ⟨_, atI_of (j := 5) rfl rfl, ?_⟩ | refine ⟨le_szL rfl, ?_⟩ | refine ⟨rfl, rfl, ?_⟩))
      exact ⟨pn, key trivial⟩
    | ov =>
      obtain ⟨⟨a, b, rfl⟩, _⟩ := wf
      refine ⟨rfl, ?_⟩
      (repeat (first | refine ⟨_, atI_zero, ?_⟩ | refine ⟨_, atI_of (j := 1) rfl rfl, ?_⟩ | refine ⟨_, atI_of (j := 2) rfl rfl, ?_⟩ | refine ⟨_, atI_of (j := 3) rfl rfl, ?_⟩ | refine ⟨_, atI_of (j := 4) rfl rfl, ?_⟩ | refine ⟨_, atI_of (j := 5) rfl rfl, ?_⟩ | refine ⟨le_szL rfl, ?_⟩ | refine ⟨rfl, rfl, ?_⟩))
      refine ⟨rfl, ?_⟩
      (repeat (first | refine ⟨_, atI_zero, ?_⟩ | refine ⟨_, atI_of (j := 1) rfl rfl, ?_⟩ | refine ⟨_, atI_of (j := 2) rfl rfl, ?_⟩ | refine ⟨_, atI_of (j := 3) rfl rfl, ?_⟩ | refine ⟨_, atI_of (j := 4) rfl rfl, ?_⟩ | refine ⟨_, atI_of (j := 5) rfl rfl, ?_⟩ | refine ⟨le_szL rfl, ?_⟩ | refine ⟨rfl, rfl, ?_⟩))
      exact ⟨pn, key trivial⟩
    | cs s =>
      obtain ⟨⟨a, b, c, d, rfl⟩, _⟩ := wf
      refine ⟨rfl, ?_⟩
      (repeat (first | refine ⟨_, atI_zero, ?_⟩ | refine ⟨_, atI_of (j := 1) rfl rfl, ?_⟩ | refine ⟨_, atI_of (j := 2) rfl rfl, ?_⟩ | refine ⟨_, atI_of (j := 3) rfl rfl, ?_⟩ | refine ⟨_, atI_of (j := 4) rfl rfl, ?_⟩ | refine ⟨_, atI_of (j := 5) rfl rfl, ?_⟩ | refine ⟨le_szL rfl, ?_⟩ | refine ⟨rfl, rfl, ?_⟩))
      refine ⟨rfl, ?_⟩
      (repeat (first | refine ⟨_, atI_zero, ?_⟩ | refine ⟨_, atI_of (j := 1) rfl rfl, ?_⟩ | refine ⟨_, atI_of (j := 2) rfl rfl, ?_⟩ | refine ⟨_, atI_of (j := 3) rfl rfl, ?_⟩ | refine ⟨_, atI_of (j := 4) rfl rfl, ?_⟩ | refine ⟨_, atI_of (j := 5) rfl rfl, ?_⟩ | refine ⟨le_szL rfl, ?_⟩ | refine ⟨rfl, rfl, ?_⟩))
      exact ⟨pn, key trivial⟩
theorem ok_is_formula (T : Tx K mg) (D0 : Dfn K mg "is_formula" s_is_formula ["thing"]) (da : Dfn K mg "are_formulas" s_are_formulas ["thing"]) (dl : Dfn K mg "is_long_formula" s_is_long_formula ["thing"]) (c_is_number : C_is_number P w K mg base := by assumption) (c_is_name : C_is_name P w K mg base := by assumption) (c_is_range : C_is_range P w K mg base := by assumption) : ∀ n, C_is_formula n P w K mg base
  | 0 => fnx_no D0 (fun rs Q ⟨f, _, h, _⟩ => absurd h.1.hgt (Nat.not_lt_zero _)) _
  | n + 1 =>
    have c0 := ok_is_formula T D0 da dl c_is_number c_is_name c_is_range n
    have c1 := ok_are_formulas n T da c0
    have c2 := ok_is_long_formula n T dl c0 c1 c_is_number
    ok_is_formula1 n T c_is_number c_is_name c_is_range c1 c2 D0
end

end K31
set_option Elab.async false
set_option linter.all false
set_option maxRecDepth 100000
set_option maxHeartbeats 4000000
namespace K31
open PySem PySem.Spec PyProof.Rows L2 DL
/-- a formula that stands at a place -/
structure WF (p : Str) (f : Fm) : Prop where
  sm : f.Sm 5
  ok : f.ok
  rds : ∀ x ∈ f.rds, x.ok
  fits : f.fits p = true
structure _root_.DL.Col.Fine (c : Col) : Prop where
  h : WF "head" c.h
  b : WF "body" c.b
  f : WF "foot" c.f
theorem _root_.DL.WholeF.wf {p : Str} {f : Fm} (hp : IsPl p) (h : WholeF p f) : WF p f := ⟨h.sm, h.ok, fun x hx => (h.rds x hx).ok, h.fits hp⟩
theorem _root_.DL.Col.Good.fine {c : Col} (g : c.Good) : c.Fine := ⟨g.h.wf .head, g.b.wf .body, g.f.wf .foot⟩
section
variable {P : Program} {w : World} {K : PySem.W.Frag} {mg : Str → Option Value} {base : Heap}
abbrev C_column_of (P : Program) (w : World) (K : PySem.W.Frag) (mg : Str → Option Value) (base : Heap) : Prop := FnX P w K mg base 1 "column_of" 2 tCol
theorem ok_column_of (D0 : Dfn K mg "column_of" s_column_of ["read", "column"]) : C_column_of P w K mg base := by
  refine FnX.of D0 sc_column_of rfl mono_tCol len_tCol fun f cdv A outer s H E hr => ⟨_, (pds_cons (pds_set (i := 2) sc_column_of.nd rfl (Or.inl rfl) (pd_ixV (pdv_var (pv 0)) (pdv_of (pd_c pe_int fun _ => .int _)) (fun _ _ => rfl)))
      (pds_cons (pds_if (pdt_eq hr.units (pd_ixV (pdv_var (pv 2)) (pdv_of (pd_c pe_int fun _ => .int _)) (fun _ _ => rfl)) (pd_c pe_str fun _ => .str _)) (pds_one (pds_ret (pd_c pe_non fun _ => .non))) pds_nil)
      (pds_one (pds_ret (pd_if (pdt_eq hr.units (pd_ixV (pdv_var (pv 2)) (pdv_of (pd_c pe_int fun _ => .int _)) (fun _ _ => rfl)) (pd_c pe_str fun _ => .str _)) (pd_ixV (pdv_var (pv 2)) (pdv_of (pd_c pe_int fun _ => .int _)) (fun _ _ => rfl)) (pd_addV (pdv_var (pv 1)) (pdv_of (pd_ixV (pdv_var (pv 2)) (pdv_of (pd_c pe_int fun _ => .int _)) (fun _ _ => rfl))))))))), fun rs Q h => ?_⟩
  obtain ⟨d, c, rfl, hd, q⟩ := tCol_in h
  obtain ⟨k, p, ds, rfl, hp, hl⟩ := read_cases hd
  refine ⟨p, atI_of (j := 1) rfl rfl, ?_⟩
  rcases col_cases hp with rfl | ⟨i, rfl⟩ | ⟨i, rfl⟩
  · exact ⟨_, atI_zero, q⟩
  · exact ⟨_, atI_zero, _, atI_zero, _, atI_of (j := 1) rfl rfl, q⟩
  · exact ⟨_, atI_zero, _, atI_zero, _, atI_of (j := 1) rfl rfl, q⟩
/-! ### a row of formulas, given as a list or a tuple -/
def rowP (p : Bool × Col) : D := match p.1 with
  | true => .lst [p.2.h.d, p.2.b.d, p.2.f.d]
  | false => p.2.d
def seqP (t : Bool) (ds : List D) : D := match t with
  | true => .tup ds
  | false => .lst ds
def tRow : TF := fun rs Q => ∃ c : Bool × Col, rs = [.dt (rowP c)] ∧ c.2.Fine ∧ Q (.dt (.bl true))
abbrev C_is_row_of_formulas (P : Program) (w : World) (K : PySem.W.Frag) (mg : Str → Option Value) (base : Heap) : Prop := FnX P w K mg base 21 "is_row_of_formulas" 1 tRow
theorem ok_is_row (T : Tx K mg) (D0 : Dfn K mg "is_row_of_formulas" s_is_row_of_formulas ["thing"]) (c_is_formula : C_is_formula 5 P w K mg base) : C_is_row_of_formulas P w K mg base := by
  refine FnX.of (k := 20) D0 sc_is_row_of_formulas rfl (fun rs Q Q' ⟨c, a, b, q⟩ w => ⟨c, a, b, w _ q⟩) (fun rs Q ⟨c, a, _⟩ => by rw [a]; rfl) fun f cdv A outer s H E hr => ⟨_, (pds_one (pds_ret (pd_and (pd_isi2 .list .tuple (by rfl) T.b_isinstance (by rfl) T.b_list boot_listT (by rfl) T.b_tuple boot_tupleT (pd_var (pv 0))) (pd_and (pd_eq hr.units (pd_lenV (by rfl) T.b_len (pdv_var (pv 0))) (pd_c pe_int fun _ => .int _)) (pd_one (pd_all rfl (by rfl) T.b_all (pda_cons (pd_lc rfl sc_is_row_of_formulas.nd (pdi_over (pd_var (pv 0))) (blkOk_by (own := [("one", 1)]) (N := ["thing", "one"]) (sc := defScope s_is_row_of_formulas) (by decide +kernel)) rfl (fun _ _ _ _ _ => (pdg_name (pg_name (i := 1) sc_is_row_of_formulas.nd rfl (Or.inl rfl)))) (fun _ _ _ _ _ => pdts_nil) (fun _ _ _ _ _ => (pd_fn c_is_formula (hr.mono (by omega)) (by rfl) (pda_cons (pd_var (pv 1)) pda_nil)))) pda_nil))))))), fun rs Q h => ?_⟩
  obtain ⟨⟨b, c⟩, rfl, g, q⟩ := h
  have key : ∀ x ∈ [c.h, c.b, c.f], x.Sm 5 ∧ x.ok := by
    intro x hx
    simp only [List.mem_cons, List.not_mem_nil, or_false] at hx
    rcases hx with rfl | rfl | rfl
    · exact ⟨g.h.sm, g.h.ok⟩
    · exact ⟨g.b.sm, g.b.ok⟩
    · exact ⟨g.f.sm, g.f.ok⟩
  cases b
  all_goals
    refine ⟨rfl, ?_⟩
    refine if_yes rfl ?_
    refine ⟨rfl, rfl, ?_⟩
    refine if_yes rfl ?_
    refine ⟨le_szL rfl, ?_⟩
    refine comp_map Fm.d (fun _ => .bl true) [c.h, c.b, c.f] _ _ (fun x hx C hC => ⟨x, rfl, key x hx, hC _ rfl⟩) ?_
    exact q
/-! ### Sheet(..) -/
def tInitR : TFI := fun rs Q => ∃ ps : List (Bool × Col), rs = [.dt (.lst (ps.map rowP))] ∧ ps.length ≤ 1000 ∧ (∀ p ∈ ps, p.2.Fine) ∧ Q ["its_columns"] [.lst (ps.map fun p => p.2.d)]
abbrev I_SheetR (P : Program) (w : World) (K : PySem.W.Frag) (mg : Str → Option Value) (base : Heap) : Prop := InitX P w K mg base 22 (He.ga K "Sheet") "Sheet" 1 tInitR
theorem ok_Sheet_initR (T : Tx K mg) (D0 : Dfi K mg (He.ga K "Sheet") "Sheet" "Sheet.__init__" s_Sheet___init__ ["self", "columns"]) (c_fits : C_fits 5 P w K mg base) (c_is_row_of_formulas : C_is_row_of_formulas P w K mg base := by assumption) : I_SheetR P w K mg base := by
  refine InitX.of (k := 21) D0 sc_Sheet___init__ rfl (fun rs Q Q' ⟨c, a, b, d, q⟩ w => ⟨c, a, b, d, w _ _ q⟩) (fun rs Q ⟨c, a, _⟩ => by rw [a]; rfl) fun f cdv A outer s H E hr => ⟨_, (pds_cons (pds_if (PDW.t (pdw_or (pdt_not (pdt_b (pd_isi2 .list .tuple (by rfl) T.b_isinstance (by rfl) T.b_list boot_listT (by rfl) T.b_tuple boot_tupleT (pd_var (pv 1))))) (pdw_or1 (pdt_not (pdt_b (pd_all rfl (by rfl) T.b_all (pda_cons (pd_lc rfl sc_Sheet___init__.nd (pdi_over (pd_var (pv 1))) (blkOk_by (own := [("one", 2)]) (N := ["self", "columns", "one", "at", "column", "place", "formula"]) (sc := defScope s_Sheet___init__) (by decide +kernel)) rfl (fun _ _ _ _ _ => (pdg_name (pg_name (i := 2) sc_Sheet___init__.nd rfl (Or.inl rfl)))) (fun _ _ _ _ _ => pdts_nil) (fun _ _ _ _ _ => (pd_fn c_is_row_of_formulas (hr.mono (by omega)) (by rfl) (pda_cons (pd_var (pv 2)) pda_nil)))) pda_nil))))))) (pds_one pds_never) pds_nil)
      (pds_cons (pds_for PassesOwn.never rfl (pdi_enum (by rfl) T.b_enumerate (pda_cons (pd_var (pv 1)) pda_nil)) (pdg_names (is := [3, 4]) (pg_tup rfl (pgs_cons (pg_name (i := 3) sc_Sheet___init__.nd rfl (Or.inl rfl)) (pgs_cons (pg_name (i := 4) sc_Sheet___init__.nd rfl (Or.inl rfl)) pgs_nil))) rfl) (pds_one (pds_for PassesOwn.never rfl (pdi_zipX (by rfl) T.b_zip (pda_cons (pd_gtup T.g_PLACES T.t_PLACES (fun _ => (.cons (.str _) (.cons (.str _) (.cons (.str _) .nil)))) (by rfl)) (pda_cons (pd_var (pv 4)) pda_nil))) (pdg_names (is := [5, 6]) (pg_tup rfl (pgs_cons (pg_name (i := 5) sc_Sheet___init__.nd rfl (Or.inl rfl)) (pgs_cons (pg_name (i := 6) sc_Sheet___init__.nd rfl (Or.inl rfl)) pgs_nil))) rfl) (pds_one (pds_if (pdt_not (pdt_b (pd_fn c_fits (hr.mono (by omega)) (by rfl) (pda_cons (pd_var (pv 6)) (pda_cons (pd_var (pv 5)) pda_nil))))) (pds_one pds_never) pds_nil)))))
      (pds_one (pds_fld T.k_Sheet T.n_Sheet_its_columns (pv 0) (pd_lc rfl sc_Sheet___init__.nd (pdi_over (pd_var (pv 1))) (blkOk_by (own := [("column", 4)]) (N := ["self", "columns", "one", "at", "column", "place", "formula"]) (sc := defScope s_Sheet___init__) (by decide +kernel)) rfl (fun _ _ _ _ _ => (pdg_name (pg_name (i := 4) sc_Sheet___init__.nd rfl (Or.inl rfl)))) (fun _ _ _ _ _ => pdts_nil) (fun _ _ _ _ _ => (pd_tupleV (by rfl) T.b_tuple (pdv_var (pv 4))))))))), fun xa rs Q h => ?_⟩
  obtain ⟨ps, rfl, hl, g, q⟩ := h
  have z1 := sizeLine_eq
  have e : blsOf ([] ++ ps.map fun _ => DL.D.bl true) = some (ps.map fun _ => true) := by
    have z := blsOf_map (ps.map fun _ => true)
    rw [List.map_map] at z
    exact z
  all_goals
    refine ⟨rfl, ?_⟩
    refine if_no rfl ?_
    refine ⟨by rw [List.length_map]; omega, ?_⟩
    refine comp_map rowP (fun _ => .bl true) ps _ _ (fun x hx C hC => ⟨x, rfl, g x hx, hC _ rfl⟩) ?_
    dsimp only [az, fz, Option.map, tdNil, f1]
    refine gAll_of e ?_
    dsimp only
    rw [List.map_const', all_true]
    refine forD_L (fun ds δ => ∃ (k : Nat) (xs : List (Bool × Col)) (s2 s3 s4 s5 s6 : Sl), ds = enumD k (xs.map rowP) ∧ (∀ c ∈ xs, c.2.Fine) ∧ δ = [.oI xa (He.ga K "Sheet") [] [], .dt (.lst (ps.map rowP)), s2, s3, s4, s5, s6]) ?_ ?_ _ _ ⟨0, ps, .no, .no, .no, .no, .no, rfl, g, rfl⟩
    · rintro d ds δ N ⟨k, xs, s2, s3, s4, s5, s6, e1, e2, rfl⟩ hN
      cases xs with
      | nil => cases e1
      | cons x xs =>
        cases e1
        obtain ⟨bx, x⟩ := x
        have gx : x.Fine := e2 (bx, x) List.mem_cons_self
        cases bx
        all_goals
          refine ⟨rfl, ?_⟩
          refine ⟨rfl, ?_⟩
          refine ⟨_, _, _, rfl, ⟨x.h, "head", rfl, rfl, gx.h.sm, gx.h.rds, rfl⟩, ?_⟩
          rw [gx.h.fits]
          refine ⟨rfl, ?_⟩
          refine ⟨_, _, _, rfl, ⟨x.b, "body", rfl, rfl, gx.b.sm, gx.b.rds, rfl⟩, ?_⟩
          rw [gx.b.fits]
          refine ⟨rfl, ?_⟩
          refine ⟨_, _, _, rfl, ⟨x.f, "foot", rfl, rfl, gx.f.sm, gx.f.rds, rfl⟩, ?_⟩
          rw [gx.f.fits]
          exact hN _ ⟨k + 1, xs, _, _, _, _, _, rfl, fun c hc => e2 c (List.mem_cons_of_mem _ hc), rfl⟩
    · rintro δ ⟨k, xs, s2, s3, s4, s5, s6, e1, e2, rfl⟩
      refine ⟨by rw [List.length_map]; omega, ?_⟩
      refine comp_map rowP (fun p => p.2.d) ps _ _ (fun x hx C hC => ?_) ?_
      · obtain ⟨bx, x⟩ := x
        cases bx <;> exact hC _ rfl
      · exact ⟨rfl, by simp, by decide, _, _, rfl, q⟩
def tInit : TFI := fun rs Q => ∃ cs : List Col, rs = [.dt (.lst (cs.map Col.d))] ∧ cs.length ≤ 1000 ∧ (∀ c ∈ cs, c.Fine) ∧ Q ["its_columns"] [.lst (cs.map Col.d)]
abbrev I_Sheet (P : Program) (w : World) (K : PySem.W.Frag) (mg : Str → Option Value) (base : Heap) : Prop := InitX P w K mg base 22 (He.ga K "Sheet") "Sheet" 1 tInit
theorem ok_Sheet_init (T : Tx K mg) (D0 : Dfi K mg (He.ga K "Sheet") "Sheet" "Sheet.__init__" s_Sheet___init__ ["self", "columns"]) (c_fits : C_fits 5 P w K mg base) (c_is_row_of_formulas : C_is_row_of_formulas P w K mg base := by assumption) : I_Sheet P w K mg base := by
  refine (ok_Sheet_initR T D0 c_fits).imp (fun rs Q Q' ⟨c, a, b, d, q⟩ w => ⟨c, a, b, d, w _ _ q⟩) (fun rs Q ⟨c, a, _⟩ => by rw [a]; rfl) fun rs Q ⟨cs, a, b, d, q⟩ => ⟨cs.map fun c => (false, c), ?_, by rw [List.length_map]; exact b, fun p hp => ?_, ?_⟩
  · rw [a, List.map_map]; rfl
  · obtain ⟨c, hc, rfl⟩ := List.mem_map.mp hp
    exact d c hc
  · rw [List.map_map]; exact q
/-! ### methods -/
def tHas (C : Addr) : TF := fun rs Q => ∃ (cs : List Col) (a : Int), rs = [.dt (sheetD C cs), .dt (.int a)] ∧ Q (.dt (.bl (decide (0 ≤ a) && decide (a < (cs.length : Int)))))
abbrev M_has_column (P : Program) (w : World) (K : PySem.W.Frag) (mg : Str → Option Value) (base : Heap) : Prop := MthX P w K mg base 2 (He.ga K "Sheet") "has_column" 2 (tHas (He.ga K "Sheet"))
theorem ok_has_column (T : Tx K mg) (D0 : Dfm K (He.ga K "Sheet") "has_column" "Sheet.has_column" s_Sheet_has_column ["self", "thing"]) (c_is_integer : C_is_integer P w K mg base := by assumption) : M_has_column P w K mg base := by
  refine MthX.of T.k_Sheet D0 sc_Sheet_has_column rfl (fun rs Q Q' ⟨c, a, b, q⟩ w => ⟨c, a, b, w _ q⟩) (fun rs Q ⟨c, a, b, _⟩ => by rw [b]; rfl) fun f cdv A outer s H E hr => ⟨_, (pds_one (pds_ret (pd_and (pd_fn c_is_integer (hr.mono (by omega)) (by rfl) (pda_cons (pd_var (pv 1)) pda_nil)) (pd_one (pd_chain op_le op_lt mono_fLe mono_fLt (opS_I0 fun _ _ _ => .bl _) (opS_I0 fun _ _ _ => .bl _) (pd_c pe_int fun _ => .int _) (pd_var (pv 1)) (pd_len (by rfl) T.b_len (pda_cons (pd_fld T.k_Sheet T.n_Sheet_its_columns (pd_var (pv 0))) pda_nil))))))), fun rs Q h => ?_⟩
  obtain ⟨cs, a, rfl, q⟩ := h
  refine ⟨rfl, ?_⟩
  refine if_yes rfl ?_
  refine and_in (Q := qb Q) q fun q => ?_
  refine ⟨rfl, _, rfl, ?_⟩
  show Q (.dt (.bl (decide (a < ((cs.map Col.d).length : Nat)))))
  rw [List.length_map]
  exact q
end

end K31
set_option Elab.async false
set_option linter.all false
set_option maxRecDepth 100000
set_option maxHeartbeats 4000000
namespace K31
open PySem PySem.Spec PyProof.Rows L2 DL
section
variable {P : Program} {w : World} {K : PySem.W.Frag} {mg : Str → Option Value} {base : Heap}
/-! ### columns, formula_at -/
def tCols (C : Addr) : TF := fun rs Q => ∃ cs : List Col, rs = [.dt (sheetD C cs)] ∧ cs.length ≤ 1000 ∧ Q (.ol (cs.map Col.d))
abbrev M_columns (P : Program) (w : World) (K : PySem.W.Frag) (mg : Str → Option Value) (base : Heap) : Prop := MthX P w K mg base 1 (He.ga K "Sheet") "columns" 1 (tCols (He.ga K "Sheet"))
theorem ok_columns (T : Tx K mg) (D0 : Dfm K (He.ga K "Sheet") "columns" "Sheet.columns" s_Sheet_columns ["self"]) : M_columns P w K mg base := by
  refine MthX.of T.k_Sheet D0 sc_Sheet_columns rfl (fun rs Q Q' ⟨c, a, b, q⟩ w => ⟨c, a, b, w _ q⟩) (fun rs Q ⟨c, a, _⟩ => by rw [a]; rfl) fun f cdv A outer s H E hr => ⟨_, (pds_one (pds_ret (pd_list (by rfl) T.b_list (pda_cons (pd_fld T.k_Sheet T.n_Sheet_its_columns (pd_var (pv 0))) pda_nil)))), fun rs Q h => ?_⟩
  obtain ⟨cs, rfl, hl, q⟩ := h
  exact ⟨rfl, _, rfl, by rw [List.length_map]; have := sizeLine_eq; omega, q⟩
end

end K31
set_option Elab.async false
set_option linter.all false
set_option maxRecDepth 100000
set_option maxHeartbeats 4000000
namespace K31
open PySem PySem.Spec PyProof.Rows L2 DL
section
variable {P : Program} {w : World} {K : PySem.W.Frag} {mg : Str → Option Value} {base : Heap}
def tLenS (C : Addr) : TF := fun rs Q => ∃ cs : List Col, rs = [.dt (sheetD C cs)] ∧ Q (.dt (.int (cs.length : Nat)))
abbrev M_len (P : Program) (w : World) (K : PySem.W.Frag) (mg : Str → Option Value) (base : Heap) : Prop := MthX P w K mg base 1 (He.ga K "Sheet") "__len__" 1 (tLenS (He.ga K "Sheet"))
theorem ok_len (T : Tx K mg) (D0 : Dfm K (He.ga K "Sheet") "__len__" "Sheet.__len__" s_Sheet___len__ ["self"]) : M_len P w K mg base := by
  refine MthX.of T.k_Sheet D0 sc_Sheet___len__ rfl (fun rs Q Q' ⟨c, a, q⟩ w => ⟨c, a, w _ q⟩) (fun rs Q ⟨c, a, _⟩ => by rw [a]; rfl) fun f cdv A outer s H E hr => ⟨_, (pds_one (pds_ret (pd_len (by rfl) T.b_len (pda_cons (pd_fld T.k_Sheet T.n_Sheet_its_columns (pd_var (pv 0))) pda_nil)))), fun rs Q h => ?_⟩
  obtain ⟨cs, rfl, q⟩ := h
  refine ⟨rfl, _, rfl, ?_⟩
  show Q (.dt (.int (((cs.map Col.d).length : Nat) : Int)))
  rw [List.length_map]
  exact q
end

end K31
set_option Elab.async false
set_option linter.all false
set_option maxRecDepth 100000
set_option maxHeartbeats 4000000
namespace K31
open PySem PySem.Spec PyProof.Rows L2 DL
/-! ### edges as data -/
def oD : Option Int → D
  | none => .non
  | some i => .int i
structure Ed where
  h : Nat
  t : Nat
  lo : Option Int
  hi : Option Int
  deriving DecidableEq
def Ed.d (e : Ed) : D := .tup [.int e.h, .int e.t, oD e.lo, oD e.hi]
structure Ed.ok (m : Nat) (e : Ed) : Prop where
  h : e.h < m
  t : e.t < m
  lo : ∀ i, e.lo = some i → -5 ≤ i ∧ i ≤ 5
  hi : ∀ i, e.hi = some i → -5 ≤ i ∧ i ≤ 5
  le : ∀ i j, e.lo = some i → e.hi = some j → i ≤ j
def nonD : D → Bool
  | .non => true
  | _ => false
def numO : D → D
  | .non => .int 0
  | d => d
/-- what edges are sorted by -/
def kf_edge_key : D → D
  | .tup [a, b, l, h] => .tup [a, b, .bl (!nonD l), numO l, .bl (nonD h), numO h]
  | d => d
section
variable {P : Program} {w : World} {K : PySem.W.Frag} {mg : Str → Option Value} {base : Heap}
def tEnd : TF := fun rs Q => ∃ o : Option Int, rs = [.dt (oD o)] ∧ (∀ i, o = some i → -5 ≤ i ∧ i ≤ 5) ∧ Q (.dt (.bl true))
abbrev C_is_end (P : Program) (w : World) (K : PySem.W.Frag) (mg : Str → Option Value) (base : Heap) : Prop := FnX P w K mg base 2 "is_end" 1 tEnd
theorem ok_is_end (T : Tx K mg) (D0 : Dfn K mg "is_end" s_is_end ["thing"]) (c_is_integer : C_is_integer P w K mg base := by assumption) : C_is_end P w K mg base := by
  refine FnX.of (k := 1) D0 sc_is_end rfl (fun rs Q Q' ⟨a, b, c, q⟩ w => ⟨a, b, c, w _ q⟩) (fun rs Q ⟨a, b, _⟩ => by rw [b]; rfl) fun f cdv A outer s H E hr => ⟨_, (pds_one (pds_ret (pd_or (pd_isN (pd_var (pv 0)) (pd_c pe_non fun _ => .non)) (pd_one (pd_and (pd_fn c_is_integer (hr.mono (by omega)) (by rfl) (pda_cons (pd_var (pv 0)) pda_nil)) (pd_one (pd_chain op_le op_le mono_fLe mono_fLe (opS_I0 fun _ _ _ => .bl _) (opS_I0 fun _ _ _ => .bl _) (pd_neg (pd_gint T.i_FARTHEST (by rfl))) (pd_var (pv 0)) (pd_gint T.i_FARTHEST (by rfl))))))))), fun rs Q h => ?_⟩
  obtain ⟨o, rfl, hb, q⟩ := h
  cases o with
  | none => exact q
  | some i =>
    have z := hb i rfl
    refine ⟨rfl, ?_⟩
    refine if_both (a := decide (-5 ≤ i)) (fun _ => ?_) fun e => absurd (of_decide_eq_false e) (by omega)
    show Q (.dt (.bl (decide (i ≤ 5))))
    rw [decide_eq_true z.2]
    exact q
def tIsEd : TF := fun rs Q => ∃ (e : Ed) (m : Nat), rs = [.dt e.d, .dt (.int m)] ∧ e.ok m ∧ Q (.dt (.bl true))
abbrev C_is_edge (P : Program) (w : World) (K : PySem.W.Frag) (mg : Str → Option Value) (base : Heap) : Prop := FnX P w K mg base 3 "is_edge" 2 tIsEd
theorem ok_is_edge (T : Tx K mg) (D0 : Dfn K mg "is_edge" s_is_edge ["thing", "many"]) (c_is_integer : C_is_integer P w K mg base := by assumption) (c_is_end : C_is_end P w K mg base := by assumption) : C_is_edge P w K mg base := by
  refine FnX.of (k := 2) D0 sc_is_edge rfl (fun rs Q Q' ⟨a, b, c, d, q⟩ w => ⟨a, b, c, d, w _ q⟩) (fun rs Q ⟨a, b, c, _⟩ => by rw [c]; rfl) fun f cdv A outer s H E hr => ⟨_, (pds_cons (pds_if (PDW.t (pdw_or (pdt_not (pdt_b (pd_isi .tuple (by rfl) T.b_isinstance (by rfl) T.b_tuple boot_tupleT (pd_var (pv 0))))) (pdw_or1 (pdt_ne hr.units (pd_lenV (by rfl) T.b_len (pdv_var (pv 0))) (pd_c pe_int fun _ => .int _))))) (pds_one (pds_ret (pd_c pe_bl fun _ => .bl _))) pds_nil)
      (pds_cons (pds_unpack (pd_var (pv 0)) (pdg_names (is := [2, 3, 4, 5]) (pg_tup rfl (pgs_cons (pg_name (i := 2) sc_is_edge.nd rfl (Or.inl rfl)) (pgs_cons (pg_name (i := 3) sc_is_edge.nd rfl (Or.inl rfl)) (pgs_cons (pg_name (i := 4) sc_is_edge.nd rfl (Or.inl rfl)) (pgs_cons (pg_name (i := 5) sc_is_edge.nd rfl (Or.inl rfl)) pgs_nil))))) rfl))
      (pds_cons (pds_if (pdt_not (pdt_b (pd_all rfl (by rfl) T.b_all (pda_cons (pd_frz [1] (pd_lc rfl sc_is_edge.nd (pdi_over (pd_tup (pda_cons (pd_var (pv 2)) (pda_cons (pd_var (pv 3)) pda_nil)))) (blkOk_by (own := [("column", 6)]) (N := ["thing", "many", "here", "there", "low", "high", "column"]) (sc := defScope s_is_edge) (by decide +kernel)) rfl (fun _ _ _ _ _ => (pdg_name (pg_name (i := 6) sc_is_edge.nd rfl (Or.inl rfl)))) (fun _ _ _ _ _ => pdts_nil) (fun _ _ _ _ _ => (pd_and (pd_fn c_is_integer (hr.mono (by omega)) (by rfl) (pda_cons (pd_var (pv 6)) pda_nil)) (pd_one (pd_chain op_le op_lt mono_fLe mono_fLt (opS_I0 fun _ _ _ => .bl _) (opS_I0 fun _ _ _ => .bl _) (pd_c pe_int fun _ => .int _) (pd_var (pv 6)) (pd_var (pv 1)))))))) pda_nil)))) (pds_one (pds_ret (pd_c pe_bl fun _ => .bl _))) pds_nil)
      (pds_cons (pds_if (PDW.t (pdw_or (pdt_not (pdt_b (pd_fn c_is_end (hr.mono (by omega)) (by rfl) (pda_cons (pd_var (pv 4)) pda_nil)))) (pdw_or1 (pdt_not (pdt_b (pd_fn c_is_end (hr.mono (by omega)) (by rfl) (pda_cons (pd_var (pv 5)) pda_nil))))))) (pds_one (pds_ret (pd_c pe_bl fun _ => .bl _))) pds_nil)
      (pds_one (pds_ret (pd_or (pd_isN (pd_var (pv 4)) (pd_c pe_non fun _ => .non)) (pd_or (pd_isN (pd_var (pv 5)) (pd_c pe_non fun _ => .non)) (pd_one (pd_le (pd_var (pv 4)) (pd_var (pv 5)))))))))))), fun rs Q h => ?_⟩
  obtain ⟨⟨h, t, lo, hi⟩, m, rfl, ok, q⟩ := h
  have o1 : h < m := ok.h
  have o2 : t < m := ok.t
  refine ⟨rfl, rfl, rfl, rfl, ?_⟩
  refine ⟨le_szL rfl, le_szL rfl, ?_⟩
  refine comp_map (fun i : Nat => D.int (i : Int)) (fun _ => .bl true) [h, t] _ _ (fun i hi C hC => ⟨rfl, ?_⟩) ?_
  · have hm : (i : Int) < (m : Int) := by
      simp only [List.mem_cons, List.not_mem_nil, or_false] at hi
      rcases hi with rfl | rfl <;> omega
    exact hC _ (by show some (D.bl (decide ((i : Int) < (m : Int)))) = some (.bl true); rw [decide_eq_true hm])
  have eb : blsOf ([] ++ [h, t].map fun _ => DL.D.bl true) = some ([h, t].map fun _ => true) := rfl
  dsimp only [az, fz, Option.map, tdNil, f1]
  refine gAll_of eb ?_
  refine ⟨lo, rfl, ok.lo, hi, rfl, ok.hi, ?_⟩
  have ole := ok.le
  cases lo with
  | none => exact q
  | some x =>
    cases hi with
    | none => exact q
    | some y =>
      have z : x ≤ y := ole x y rfl rfl
      show Q (.dt (.bl (decide (x ≤ y))))
      rw [decide_eq_true z]
      exact q
def tKey : TF := fun rs Q => ∃ e : Ed, rs = [.dt e.d] ∧ Q (.dt (kf_edge_key e.d))
abbrev C_edge_key (P : Program) (w : World) (K : PySem.W.Frag) (mg : Str → Option Value) (base : Heap) : Prop := FnX P w K mg base 1 "edge_key" 1 tKey
theorem ok_edge_key (T : Tx K mg) (D0 : Dfn K mg "edge_key" s_edge_key ["edge"]) : C_edge_key P w K mg base := by
  refine FnX.of (k := 0) D0 sc_edge_key rfl (fun rs Q Q' ⟨a, b, q⟩ w => ⟨a, b, w _ q⟩) (fun rs Q ⟨a, b, _⟩ => by rw [b]; rfl) fun f cdv A outer s H E hr => ⟨_, (pds_cons (pds_unpack (pd_var (pv 0)) (pdg_names (is := [1, 2, 3, 4]) (pg_tup rfl (pgs_cons (pg_name (i := 1) sc_edge_key.nd rfl (Or.inl rfl)) (pgs_cons (pg_name (i := 2) sc_edge_key.nd rfl (Or.inl rfl)) (pgs_cons (pg_name (i := 3) sc_edge_key.nd rfl (Or.inl rfl)) (pgs_cons (pg_name (i := 4) sc_edge_key.nd rfl (Or.inl rfl)) pgs_nil))))) rfl))
      (pds_one (pds_ret (pd_tup (pda_cons (pd_var (pv 1)) (pda_cons (pd_var (pv 2)) (pda_cons (pd_notN (pd_var (pv 3)) (pd_c pe_non fun _ => .non)) (pda_cons (pd_if (pdt_isN (pd_var (pv 3)) (pd_c pe_non fun _ => .non)) (pd_c pe_int fun _ => .int _) (pd_var (pv 3))) (pda_cons (pd_isN (pd_var (pv 4)) (pd_c pe_non fun _ => .non)) (pda_cons (pd_if (pdt_isN (pd_var (pv 4)) (pd_c pe_non fun _ => .non)) (pd_c pe_int fun _ => .int _) (pd_var (pv 4))) pda_nil)))))))))), fun rs Q h => ?_⟩
  obtain ⟨⟨h, t, lo, hi⟩, rfl, q⟩ := h
  refine ⟨rfl, ?_⟩
  cases lo <;> cases hi <;> exact ⟨le_szL rfl, q⟩
end

end K31
set_option Elab.async false
set_option linter.all false
set_option maxRecDepth 100000
set_option maxHeartbeats 4000000
namespace K31
open PySem PySem.Spec PyProof.Rows L2 DL
/-! ### each edge once, in order -/
def oK : Option Int → NestedKey
  | none => .none
  | some i => .num i
def edK (e : Ed) : NestedKey := .tup [.num e.h, .num e.t, oK e.lo, oK e.hi]
theorem ed_nk (e : Ed) : nkD e.d = some (edK e) := by
  obtain ⟨h, t, lo, hi⟩ := e
  cases lo <;> cases hi <;> rfl
theorem ed_depth (e : Ed) : (edK e).depth ≤ 8 := by
  obtain ⟨h, t, lo, hi⟩ := e
  cases lo <;> cases hi <;> exact Nat.le_of_ble_eq_true rfl
theorem oK_inj {a b : Option Int} (h : oK a = oK b) : a = b := by
  cases a <;> cases b <;> first | rfl | (cases h; rfl) | cases h
theorem edK_inj {a b : Ed} (h : edK a = edK b) : a = b := by
  obtain ⟨h1, t1, l1, i1⟩ := a
  obtain ⟨h2, t2, l2, i2⟩ := b
  have h' : NestedKey.tup [.num (h1 : Int), .num (t1 : Int), oK l1, oK i1] = .tup [.num (h2 : Int), .num (t2 : Int), oK l2, oK i2] := h
  simp only [NestedKey.tup.injEq, List.cons.injEq, NestedKey.num.injEq, and_true] at h'
  obtain ⟨e1, e2, e3, e4⟩ := h'
  have e1 : h1 = h2 := by omega
  have e2 : t1 = t2 := by omega
  rw [e1, e2, oK_inj e3, oK_inj e4]
def dedE (seen : List Ed) : List Ed → List Ed
  | [] => []
  | e :: es => if e ∈ seen then dedE seen es else e :: dedE (seen ++ [e]) es
theorem edK_mem {e : Ed} {l : List Ed} : edK e ∈ l.map edK ↔ e ∈ l := by
  rw [List.mem_map]
  exact ⟨fun ⟨x, hx, h⟩ => edK_inj h ▸ hx, fun h => ⟨e, h, rfl⟩⟩
theorem ded_map : ∀ (es seen : List Ed), dedB (seen.map edK) (es.map Ed.d) = (dedE seen es).map Ed.d
  | [], seen => rfl
  | e :: es, seen => by
    rw [List.map_cons, dedB, ed_nk, dedE]
    dsimp only
    by_cases h : e ∈ seen
    · rw [if_pos (edK_mem.mpr h), if_pos h]; exact ded_map es seen
    · rw [if_neg (fun z => h (edK_mem.mp z)), if_neg h, List.map_cons]
      have z := ded_map es (seen ++ [e])
      rw [List.map_append] at z
      congr 1
theorem dedE_mem {e : Ed} : ∀ {es seen : List Ed}, e ∈ dedE seen es → e ∈ es
  | x :: es, seen, h => by
    rw [dedE] at h
    split at h
    · exact List.mem_cons_of_mem _ (dedE_mem h)
    · rcases List.mem_cons.mp h with rfl | h
      · exact List.mem_cons_self
      · exact List.mem_cons_of_mem _ (dedE_mem h)
theorem dedE_nd : ∀ (es seen : List Ed), (dedE seen es).Nodup ∧ ∀ e ∈ dedE seen es, e ∉ seen
  | [], seen => ⟨List.nodup_nil, fun e h => by cases h⟩
  | x :: es, seen => by
    rw [dedE]
    split
    · exact dedE_nd es seen
    · rename_i hx
      obtain ⟨h1, h2⟩ := dedE_nd es (seen ++ [x])
      refine ⟨List.nodup_cons.mpr ⟨fun h => h2 x h (List.mem_append_right _ List.mem_cons_self), h1⟩, fun e he => ?_⟩
      rcases List.mem_cons.mp he with rfl | he
      · exact hx
      · exact fun z => h2 e he (List.mem_append_left _ z)
theorem dedE_len : ∀ (es seen : List Ed), (dedE seen es).length ≤ es.length
  | [], seen => Nat.le_refl _
  | x :: es, seen => by
    rw [dedE]
    split
    · exact Nat.le_succ_of_le (dedE_len es seen)
    · exact Nat.succ_le_succ (dedE_len es _)
/-- the order of edges -/
def leE (a b : Ed) : Bool := PySem.W.dataLe false py (kf_edge_key a.d) (kf_edge_key b.d)
/-- the edges that a Web of these tells -/
def wEs (es : List Ed) : List Ed := (dedE [] es).mergeSort leE
theorem srtK_map (es : List Ed) : srtK kf_edge_key (es.map Ed.d) = (es.mergeSort leE).map Ed.d := by
  unfold srtK
  exact (List.map_mergeSort (f := Ed.d) (r := leE) (s := PySem.W.dataLe false fun d => py (kf_edge_key d)) fun a _ b _ => rfl).symm
theorem srtD_map (es : List Ed) : srtD (es.map fun e => kf_edge_key e.d) = (es.mergeSort leE).map fun e => kf_edge_key e.d := by
  unfold srtD
  exact (List.map_mergeSort (f := fun e : Ed => kf_edge_key e.d) (r := leE) (s := PySem.W.dataLe false py) fun a _ b _ => rfl).symm
theorem web_es (es : List Ed) : srtK kf_edge_key (dedD (es.map Ed.d)) = (wEs es).map Ed.d := by
  have z := ded_map es []
  rw [List.map_nil] at z
  unfold dedD
  rw [z, srtK_map]; rfl
/-- keys of edges are alike -/
theorem key_eq (e : Ed) : kf_edge_key e.d = .tup [.int e.h, .int e.t, .bl (!nonD (oD e.lo)), .int (e.lo.getD 0), .bl (nonD (oD e.hi)), .int (e.hi.getD 0)] := by
  obtain ⟨h, t, lo, hi⟩ := e
  cases lo <;> cases hi <;> rfl
theorem key_inj {a b : Ed} (h : kf_edge_key a.d = kf_edge_key b.d) : a = b := by
  rw [key_eq, key_eq] at h
  obtain ⟨h1, t1, l1, i1⟩ := a
  obtain ⟨h2, t2, l2, i2⟩ := b
  simp only [D.tup.injEq, List.cons.injEq, D.int.injEq, D.bl.injEq, and_true] at h
  obtain ⟨e1, e2, e3, e4, e5, e6⟩ := h
  have e1 : h1 = h2 := by omega
  have e2 : t1 = t2 := by omega
  subst e1; subst e2
  have opt : ∀ {a b : Option Int}, nonD (oD a) = nonD (oD b) → a.getD 0 = b.getD 0 → a = b := fun {a b} h1 h2 => by
    cases a with
    | none =>
      cases b with
      | none => rfl
      | some y => cases h1
    | some x =>
      cases b with
      | none => cases h1
      | some y => exact congrArg some h2
  have e3' : nonD (oD l1) = nonD (oD l2) := by
    cases q1 : nonD (oD l1) <;> cases q2 : nonD (oD l2) <;> first | rfl | (rw [q1, q2] at e3; cases e3)
  rw [opt e3' e4, opt e5 e6]
theorem key_eqv {a b : Ed} : PyData.eqv (py (kf_edge_key a.d)) (py (kf_edge_key b.d)) = decide (a = b) := by
  by_cases e : a = b
  · subst e
    rw [decide_eq_true rfl, key_eq]
    show (((a.h : Int) == a.h) && (((a.t : Int) == a.t) && (((!nonD (oD a.lo)) == (!nonD (oD a.lo))) && ((a.lo.getD 0 == a.lo.getD 0) && ((nonD (oD a.hi) == nonD (oD a.hi)) && ((a.hi.getD 0 == a.hi.getD 0) && true)))))) = true
    simp
  · rw [decide_eq_false e]
    cases q : PyData.eqv (py (kf_edge_key a.d)) (py (kf_edge_key b.d)) with
    | false => rfl
    | true =>
      exfalso
      apply e
      apply key_inj
      rw [key_eq, key_eq] at q ⊢
      have q' : (((a.h : Int) == b.h) && (((a.t : Int) == b.t) && (((!nonD (oD a.lo)) == (!nonD (oD b.lo))) && ((a.lo.getD 0 == b.lo.getD 0) && ((nonD (oD a.hi) == nonD (oD b.hi)) && ((a.hi.getD 0 == b.hi.getD 0) && true)))))) = true := q
      simp only [Bool.and_eq_true, beq_iff_eq, and_true] at q'
      obtain ⟨e1, e2, e3, e4, e5, e6⟩ := q'
      rw [e1, e2, e3, e4, e5, e6]
theorem key_alike (a b : Ed) : PySem.W.alike (py (kf_edge_key a.d)) (py (kf_edge_key b.d)) = true := by
  rw [key_eq, key_eq]; rfl
theorem keys_ok {es : List Ed} (h : es.length ≤ 10000) : SrtOk (es.map fun e => kf_edge_key e.d) := by
  have z1 := sizeLine_eq
  refine ⟨?_, ?_, ?_, ?_, by rw [List.length_map]; omega⟩
  · induction es with
    | nil => rfl
    | cons e es ih =>
      rw [List.map_cons]
      show (plainD (kf_edge_key e.d) && plainA (es.map fun e => kf_edge_key e.d)) = true
      rw [ih (by simp only [List.length_cons] at h; omega), key_eq]; rfl
  · intro d hd d' hd'
    obtain ⟨x, hx, rfl⟩ := List.mem_map.mp hd
    obtain ⟨x', hx', rfl⟩ := List.mem_map.mp hd'
    obtain ⟨e, _, rfl⟩ := List.mem_map.mp hx
    obtain ⟨e', _, rfl⟩ := List.mem_map.mp hx'
    exact key_alike e e'
  · refine .inl fun d hd => ?_
    obtain ⟨x, hx, rfl⟩ := List.mem_map.mp hd
    obtain ⟨e, _, rfl⟩ := List.mem_map.mp hx
    rw [key_eq]
    exact ⟨_, _, rfl⟩
  · intro d hd
    obtain ⟨e, _, rfl⟩ := List.mem_map.mp hd
    rw [key_eq]
    exact Nat.le_of_ble_eq_true rfl

end K31
set_option Elab.async false
set_option linter.all false
set_option maxRecDepth 100000
set_option maxHeartbeats 4000000
namespace K31
open PySem PySem.Spec PyProof.Rows L2 DL
section
variable {P : Program} {w : World} {K : PySem.W.Frag} {mg : Str → Option Value} {base : Heap}
def webD (C : Addr) (m : Nat) (es : List Ed) : D := .ins C ["kept_columns", "kept_edges"] [.tup (zs 0 m), .tup (es.map Ed.d)]
def tWInit : TFI := fun rs Q => ∃ (m : Nat) (es : List Ed), rs = [.dt (.int m), .dt (.lst (es.map Ed.d))] ∧ m ≤ 8 ∧ es.length ≤ 48 ∧ (∀ e ∈ es, e.ok m) ∧ Q ["kept_columns", "kept_edges"] [.tup (zs 0 m), .tup ((wEs es).map Ed.d)]
abbrev I_Web (P : Program) (w : World) (K : PySem.W.Frag) (mg : Str → Option Value) (base : Heap) : Prop := InitX P w K mg base 5 (He.ga K "Web") "Web" 2 tWInit
theorem ded_ok {es : List Ed} (h : es.length ≤ 10000) : DedOk (es.map Ed.d) := by
  have z1 := sizeLine_eq
  refine ⟨fun d hd => ?_, by rw [List.length_map]; omega⟩
  obtain ⟨e, _, rfl⟩ := List.mem_map.mp hd
  exact ⟨_, _, rfl, ed_nk e, ed_depth e⟩
theorem srt_ok {es : List Ed} (h : es.length ≤ 10000) : SrtK kf_edge_key tKey (dedD (es.map Ed.d)) := by
  have z := ded_map es []
  rw [List.map_nil] at z
  unfold dedD
  rw [z]
  refine ⟨fun d hd => ?_, ?_⟩
  · obtain ⟨e, _, rfl⟩ := List.mem_map.mp hd
    exact ⟨e, rfl, rfl⟩
  · rw [List.map_map]
    exact keys_ok (Nat.le_trans (dedE_len es []) h)
theorem ok_Web_init (T : Tx K mg) (D0 : Dfi K mg (He.ga K "Web") "Web" "Web.__init__" s_Web___init__ ["self", "many", "edges"]) (c_is_integer : C_is_integer P w K mg base := by assumption) (c_is_edge : C_is_edge P w K mg base := by assumption) (c_edge_key : C_edge_key P w K mg base := by assumption) : I_Web P w K mg base := by
  refine InitX.of (k := 4) D0 sc_Web___init__ rfl (fun rs Q Q' ⟨a, b, c, d, e, f, q⟩ w => ⟨a, b, c, d, e, f, w _ _ q⟩) (fun rs Q ⟨a, b, c, _⟩ => by rw [c]; rfl) fun f cdv A outer s H E hr => ⟨_, (pds_cons (pds_if (PDW.t (pdw_or (pdt_not (pdt_b (pd_fn c_is_integer (hr.mono (by omega)) (by rfl) (pda_cons (pd_var (pv 1)) pda_nil)))) (pdw_or1 (pdt_not (pdt_chain op_le op_le mono_fLe mono_fLe (opS_I0 fun _ _ _ => .bl _) (opS_I0 fun _ _ _ => .bl _) (pd_c pe_int fun _ => .int _) (pd_var (pv 1)) (pd_gint T.i_MOST_COLUMNS (by rfl))))))) (pds_one pds_never) pds_nil)
      (pds_cons (pds_if (PDW.t (pdw_or (pdt_not (pdt_b (pd_isi2 .list .tuple (by rfl) T.b_isinstance (by rfl) T.b_list boot_listT (by rfl) T.b_tuple boot_tupleT (pd_var (pv 2))))) (pdw_or1 (pdt_gt (pd_lenV (by rfl) T.b_len (pdv_var (pv 2))) (pd_gint T.i_MOST_EDGES (by rfl)))))) (pds_one pds_never) pds_nil)
      (pds_cons (pds_if (pdt_not (pdt_b (pd_all rfl (by rfl) T.b_all (pda_cons (pd_frz [1] (pd_lc rfl sc_Web___init__.nd (pdi_over (pd_var (pv 2))) (blkOk_by (own := [("edge", 3)]) (N := ["self", "many", "edges", "edge"]) (sc := defScope s_Web___init__) (by decide +kernel)) rfl (fun _ _ _ _ _ => (pdg_name (pg_name (i := 3) sc_Web___init__.nd rfl (Or.inl rfl)))) (fun _ _ _ _ _ => pdts_nil) (fun _ _ _ _ _ => (pd_fn c_is_edge (hr.mono (by omega)) (by rfl) (pda_cons (pd_var (pv 3)) (pda_cons (pd_var (pv 1)) pda_nil)))))) pda_nil)))) (pds_one pds_never) pds_nil)
      (pds_cons (pds_fld T.k_Web T.n_Web_kept_columns (pv 0) (pd_tupleR rfl (by rfl) T.b_tuple (by rfl) T.b_range (pd_var (pv 1))))
      (pds_one (pds_fld T.k_Web T.n_Web_kept_edges (pv 0) (pd_tuple (by rfl) T.b_tuple (pda_cons (pd_sortedK kf_edge_key c_edge_key (hr.mono (by omega)) (u65 hr) (by rfl) T.b_sorted (by rfl) (pda_cons (pd_dedup T.sm rfl (Nat.lt_of_le_of_lt (Nat.add_le_add_left (by decide) _) (u65 hr)) (by rfl) T.b_list (pd_var (pv 2)) (blkOk_by (own := [("edge", 3)]) (N := ["self", "many", "edges", "edge"]) (sc := defScope s_Web___init__) (by decide +kernel)) (by decide +kernel) (by decide +kernel)) pda_nil)) pda_nil)))))))), fun xa rs Q h => ?_⟩
  obtain ⟨m, es, rfl, hm, he, ok, q⟩ := h
  have z1 := sizeLine_eq
  refine ⟨rfl, ?_⟩
  refine if_both (a := !decide ((m : Int) ≤ 8)) (fun e => absurd (of_decide_eq_false (Bool.not_eq_true' _ ▸ e)) (by omega)) fun _ => ?_
  dsimp only [tdNext]
  refine ⟨rfl, ?_⟩
  refine if_both (a := decide ((48 : Int) < (((es.map Ed.d).length : Nat) : Int))) (fun e => absurd (of_decide_eq_true e) (by rw [List.length_map]; omega)) fun _ => ?_
  dsimp only [tdNext]
  refine ⟨by rw [List.length_map]; omega, ?_⟩
  refine comp_map Ed.d (fun _ => .bl true) es _ _ (fun e he C hC => ⟨e, m, rfl, ok e he, hC _ rfl⟩) ?_
  have eb : blsOf ([] ++ es.map fun _ => DL.D.bl true) = some (es.map fun _ => true) := by
    have z := blsOf_map (es.map fun _ => true)
    rw [List.map_map] at z
    exact z
  dsimp only [az, fz, Option.map, tdNil, f1]
  refine gAll_of eb ?_
  dsimp only
  rw [List.map_const', all_true]
  refine ⟨⟨by decide, by decide, by omega, by omega, by omega⟩, ?_⟩
  refine ⟨rfl, by simp, by decide, ?_⟩
  refine ⟨ded_ok (by omega), srt_ok (by omega), ?_⟩
  rw [web_es]
  refine ⟨rfl, by decide, by decide, _, _, rfl, ?_⟩
  rw [Int.toNat_natCast]
  exact q
def tEdgesW (C : Addr) : TF := fun rs Q => ∃ (m : Nat) (es : List Ed), rs = [.dt (webD C m es)] ∧ es.length ≤ 1000 ∧ Q (.ol (es.map Ed.d))
abbrev M_edges (P : Program) (w : World) (K : PySem.W.Frag) (mg : Str → Option Value) (base : Heap) : Prop := MthX P w K mg base 1 (He.ga K "Web") "edges" 1 (tEdgesW (He.ga K "Web"))
theorem ok_edges (T : Tx K mg) (D0 : Dfm K (He.ga K "Web") "edges" "Web.edges" s_Web_edges ["self"]) : M_edges P w K mg base := by
  refine MthX.of T.k_Web D0 sc_Web_edges rfl (fun rs Q Q' ⟨c, d, a, b, q⟩ w => ⟨c, d, a, b, w _ q⟩) (fun rs Q ⟨c, d, a, _⟩ => by rw [a]; rfl) fun f cdv A outer s H E hr => ⟨_, (pds_one (pds_ret (pd_list (by rfl) T.b_list (pda_cons (pd_fld T.k_Web T.n_Web_kept_edges (pd_var (pv 0))) pda_nil)))), fun rs Q h => ?_⟩
  obtain ⟨m, es, rfl, hl, q⟩ := h
  have z1 := sizeLine_eq
  exact ⟨rfl, _, rfl, by rw [List.length_map]; omega, q⟩
def tLenW (C : Addr) : TF := fun rs Q => ∃ (m : Nat) (es : List Ed), rs = [.dt (webD C m es)] ∧ Q (.dt (.int (m : Nat)))
abbrev M_lenW (P : Program) (w : World) (K : PySem.W.Frag) (mg : Str → Option Value) (base : Heap) : Prop := MthX P w K mg base 1 (He.ga K "Web") "__len__" 1 (tLenW (He.ga K "Web"))
theorem ok_lenW (T : Tx K mg) (D0 : Dfm K (He.ga K "Web") "__len__" "Web.__len__" s_Web___len__ ["self"]) : M_lenW P w K mg base := by
  refine MthX.of T.k_Web D0 sc_Web___len__ rfl (fun rs Q Q' ⟨c, d, a, q⟩ w => ⟨c, d, a, w _ q⟩) (fun rs Q ⟨c, d, a, _⟩ => by rw [a]; rfl) fun f cdv A outer s H E hr => ⟨_, (pds_one (pds_ret (pd_len (by rfl) T.b_len (pda_cons (pd_fld T.k_Web T.n_Web_kept_columns (pd_var (pv 0))) pda_nil)))), fun rs Q h => ?_⟩
  obtain ⟨m, es, rfl, q⟩ := h
  refine ⟨rfl, _, rfl, ?_⟩
  show Q (.dt (.int (((zs 0 m).length : Nat) : Int)))
  rw [zs_len]
  exact q
end

end K31
set_option Elab.async false
set_option linter.all false
set_option maxRecDepth 100000
set_option maxHeartbeats 4000000
namespace K31
open PySem PySem.Spec PyProof.Rows L2 DL
theorem tdVar_at2 {i : Nat} {δ : List Sl} {d : D} {Q : QD} (h : δ[i]? = some (.dt d)) (q : Q (.dt d) δ) : tdVar i δ Q := by unfold tdVar; rw [h]; exact q
section
variable {P : Program} {w : World} {K : PySem.W.Frag} {mg : Str → Option Value} {base : Heap}
theorem ed_bs {m : Nat} {e : Ed} (hm : m ≤ 8) (h : e.ok m) : Bs 1000 1 e.d := by
  obtain ⟨a, b, lo, hi⟩ := e
  have o1 : a < m := h.h
  have o2 : b < m := h.t
  have opt : ∀ {o : Option Int}, (∀ i, o = some i → -5 ≤ i ∧ i ≤ 5) → Bs 100 0 (oD o) := fun {o} ho => by
    cases o with
    | none => exact bsB_ok (by decide +kernel)
    | some i => have := ho i rfl; exact bs_i (by omega)
  exact (bs_cons (h := 0) (bs_i (by show ((a : Nat) : Int).natAbs < 100; omega)) (bs_cons (h := 0) (bs_i (by show ((b : Nat) : Int).natAbs < 100; omega)) (bs_cons (h := 0) (opt h.lo) (bs_cons (h := 0) (opt h.hi) (bs_nil 0))))).mono (by decide) (by decide)
theorem tup_lay {c h : Nat} {xs : List D} (hx : ∀ x ∈ xs, Bs c h x) (hh : h + 1 ≤ 64) : SeqAt.shaped (py (.tup xs)) = true := by
  have z := lay_lst hx hh
  exact z
def tEqW (C : Addr) : TF := fun rs Q => ∃ (m : Nat) (es : List Ed), rs = [.dt (webD C m es), .dt (webD C m es)] ∧ m ≤ 8 ∧ (∀ e ∈ es, e.ok m) ∧ Q (.dt (.bl true))
abbrev M_eqW (P : Program) (w : World) (K : PySem.W.Frag) (mg : Str → Option Value) (base : Heap) : Prop := MthX P w K mg base 2 (He.ga K "Web") "__eq__" 2 (tEqW (He.ga K "Web"))
theorem ok_eqW (T : Tx K mg) (D0 : Dfm K (He.ga K "Web") "__eq__" "Web.__eq__" s_Web___eq__ ["self", "other"]) : M_eqW P w K mg base := by
  refine MthX.of T.k_Web D0 sc_Web___eq__ rfl (fun rs Q Q' ⟨c, d, a, b, e, q⟩ w => ⟨c, d, a, b, e, w _ q⟩) (fun rs Q ⟨c, d, a, _⟩ => by rw [a]; rfl) fun f cdv A outer s H E hr => ⟨_, (pds_cons (pds_if (pdt_not (pdt_b (pd_isO (T.o_Web.ic T.k_Web) (by rfl) T.b_isinstance (by rfl) T.g_Web (pd_var (pv 1))))) (pds_one (pds_ret (pd_c pe_bl fun _ => .bl _))) pds_nil)
      (pds_one (pds_ret (pd_and (pd_eq hr.units (pd_fld T.k_Web T.n_Web_kept_columns (pd_var (pv 0))) (pd_fld T.k_Web T.n_Web_kept_columns (pd_var (pv 1)))) (pd_one (pd_eq hr.units (pd_fld T.k_Web T.n_Web_kept_edges (pd_var (pv 0))) (pd_fld T.k_Web T.n_Web_kept_edges (pd_var (pv 1))))))))), fun rs Q h => ?_⟩
  obtain ⟨m, es, rfl, hm, ok, q⟩ := h
  have s1 : SeqAt.shaped (py (.tup (zs 0 m))) = true := tup_lay (c := 100) (h := 0) (fun x hx => by
    obtain ⟨j, hj⟩ := List.getElem?_of_mem hx
    obtain ⟨h1, rfl⟩ := zs_get _ _ _ _ hj
    exact bs_i (by omega)) (by decide)
  have s2 : SeqAt.shaped (py (.tup (es.map Ed.d))) = true := tup_lay (c := 1000) (h := 1) (fun x hx => by
    obtain ⟨e, he, rfl⟩ := List.mem_map.mp hx
    exact ed_bs hm (ok e he)) (by decide)
  refine ⟨rfl, ?_⟩
  refine if_no rfl ?_
  refine ⟨rfl, _, rfl, rfl, _, rfl, ?_⟩
  refine fEq_same s1 ?_
  refine ⟨rfl, _, rfl, rfl, _, rfl, ?_⟩
  exact fEq_same s2 q
abbrev C__law_key (P : Program) (w : World) (K : PySem.W.Frag) (mg : Str → Option Value) (base : Heap) : Prop := FnX P w K mg base 1 "_law_key" 1 tKey
theorem ok_lkey (T : Tx K mg) (D0 : Dfn K mg "_law_key" s__law_key ["_law_edge"]) : C__law_key P w K mg base := by
  refine FnX.of (k := 0) D0 sc__law_key rfl (fun rs Q Q' ⟨a, b, q⟩ w => ⟨a, b, w _ q⟩) (fun rs Q ⟨a, b, _⟩ => by rw [b]; rfl) fun f cdv A outer s H E hr => ⟨_, (pds_cons (pds_par2 (i := 1) (j := 2) rfl sc__law_key.nd rfl rfl (by decide) rfl rfl (pd_ixV (pdv_var (pv 0)) (pdv_of (pd_c pe_int fun _ => .int _)) (fun _ _ => rfl)) (pd_ixV (pdv_var (pv 0)) (pdv_of (pd_c pe_int fun _ => .int _)) (fun _ _ => rfl)) (by rfl))
      (pds_one (pds_ret (pd_tup (pda_cons (pd_ixV (pdv_var (pv 0)) (pdv_of (pd_c pe_int fun _ => .int _)) (fun _ _ => rfl)) (pda_cons (pd_ixV (pdv_var (pv 0)) (pdv_of (pd_c pe_int fun _ => .int _)) (fun _ _ => rfl)) (pda_cons (pd_notN (pd_var (pv 1)) (pd_c pe_non fun _ => .non)) (pda_cons (pd_orN (pd_var (pv 1)) (pd_one (pd_c pe_int fun _ => .int _))) (pda_cons (pd_isN (pd_var (pv 2)) (pd_c pe_non fun _ => .non)) (pda_cons (pd_orN (pd_var (pv 2)) (pd_one (pd_c pe_int fun _ => .int _))) pda_nil)))))))))), fun rs Q h => ?_⟩
  obtain ⟨⟨h, t, lo, hi⟩, rfl, q⟩ := h
  rw [key_eq] at q
  refine ⟨_, atI_of (j := 2) rfl rfl, _, atI_of (j := 3) rfl rfl, _, atI_of (j := 0) rfl rfl, _, atI_of (j := 1) rfl rfl, ?_⟩
  cases lo with
  | none =>
    cases hi with
    | none => exact ⟨le_szL rfl, q⟩
    | some y =>
      refine if_both (a := (y != 0)) (fun _ => ⟨le_szL rfl, q⟩) fun z => ?_
      have z : y = 0 := by simpa using z
      subst z
      exact ⟨le_szL rfl, q⟩
  | some x =>
    have step : ∀ x : Int, x = 0 ∨ (x != 0) = true := fun x => by
      by_cases e : x = 0
      · exact .inl e
      · exact .inr (by simpa using e)
    cases hi with
    | none =>
      refine if_both (a := (x != 0)) (fun _ => ⟨le_szL rfl, q⟩) fun z => ?_
      have z : x = 0 := by simpa using z
      subst z
      exact ⟨le_szL rfl, q⟩
    | some y =>
      refine if_both (a := (x != 0)) (fun _ => ?_) fun z => ?_
      · refine if_both (a := (y != 0)) (fun _ => ⟨le_szL rfl, q⟩) fun z => ?_
        have z : y = 0 := by simpa using z
        subst z
        exact ⟨le_szL rfl, q⟩
      · have z : x = 0 := by simpa using z
        subst z
        refine if_both (a := (y != 0)) (fun _ => ⟨le_szL rfl, q⟩) fun z => ?_
        have z : y = 0 := by simpa using z
        subst z
        exact ⟨le_szL rfl, q⟩
end

end K31
set_option Elab.async false
set_option linter.all false
set_option maxRecDepth 100000
set_option maxHeartbeats 4000000
namespace K31
open PySem PySem.Spec PyProof.Rows L2 DL
theorem oD_eqv (a b : Option Int) : PyData.eqv (py (oD a)) (py (oD b)) = decide (a = b) := by
  cases a with
  | none => cases b <;> rfl
  | some x =>
    cases b with
    | none => rfl
    | some y =>
      show (x == y) = decide (some x = some y)
      by_cases e : x = y
      · subst e; simp
      · rw [decide_eq_false (fun z => e (Option.some.inj z)), beq_eq_false_iff_ne.mpr e]
theorem ed_eqv (a b : Ed) : PyData.eqv (py a.d) (py b.d) = decide (a = b) := by
  obtain ⟨h1, t1, l1, i1⟩ := a
  obtain ⟨h2, t2, l2, i2⟩ := b
  show (((h1 : Int) == (h2 : Int)) && (((t1 : Int) == (t2 : Int)) && (PyData.eqv (py (oD l1)) (py (oD l2)) && (PyData.eqv (py (oD i1)) (py (oD i2)) && true)))) = _
  rw [oD_eqv, oD_eqv, Bool.eq_iff_iff]
  simp only [Bool.and_eq_true, beq_iff_eq, decide_eq_true_eq, and_true, Ed.mk.injEq, Int.ofNat_inj]
theorem ed_any (e : Ed) : ∀ seen : List Ed, ((pyA (seen.map Ed.d)).any fun z => PyData.eqv z (py e.d)) = decide (e ∈ seen)
  | [] => rfl
  | x :: xs => by
    rw [List.map_cons]
    show (PyData.eqv (py x.d) (py e.d) || (pyA (xs.map Ed.d)).any fun z => PyData.eqv z (py e.d)) = _
    rw [ed_any e xs, ed_eqv, Bool.eq_iff_iff]
    simp only [Bool.or_eq_true, decide_eq_true_eq, List.mem_cons]
    constructor
    · rintro (h | h)
      · exact .inl h.symm
      · exact .inr h
    · rintro (h | h)
      · exact .inl h.symm
      · exact .inr h
theorem ed_shaped (e : Ed) : SeqAt.shaped (py e.d) = true := by
  obtain ⟨h, t, lo, hi⟩ := e
  cases lo <;> cases hi <;> rfl
theorem key_shaped (e : Ed) : SeqAt.shaped (py (kf_edge_key e.d)) = true := by rw [key_eq]; rfl
theorem pick_one {e : Ed} : ∀ {l : List Ed}, l.Nodup → e ∈ l → (l.map Ed.d).filter (fun d => PyData.eqv (py (kf_edge_key d)) (py (kf_edge_key e.d))) = [e.d]
  | x :: xs, nd, h => by
    have nd := List.nodup_cons.mp nd
    have none : ∀ {ys : List Ed}, e ∉ ys → (ys.map Ed.d).filter (fun d => PyData.eqv (py (kf_edge_key d)) (py (kf_edge_key e.d))) = [] := fun {ys} hn => by
      rw [List.filter_eq_nil_iff]
      intro d hd
      obtain ⟨y, hy, rfl⟩ := List.mem_map.mp hd
      rw [key_eqv]
      simp only [decide_eq_true_eq]
      rintro rfl
      exact hn hy
    rw [List.map_cons]
    by_cases ex : x = e
    · subst ex
      rw [List.filter_cons_of_pos (by rw [key_eqv]; exact decide_eq_true rfl), none nd.1]
    · rw [List.filter_cons_of_neg (by rw [key_eqv]; simpa using ex)]
      rcases List.mem_cons.mp h with h | h
      · exact absurd h.symm ex
      · exact pick_one nd.2 h
section
variable {P : Program} {w : World} {K : PySem.W.Frag} {mg : Str → Option Value} {base : Heap}
def tOrd : TF := fun rs Q => ∃ (m : Nat) (es : List Ed), rs = [.dt (.lst (es.map Ed.d))] ∧ m ≤ 8 ∧ es.length ≤ 1000 ∧ (∀ e ∈ es, e.ok m) ∧ Q (.dt (.lst ((wEs es).map Ed.d)))
abbrev C__law_in_order (P : Program) (w : World) (K : PySem.W.Frag) (mg : Str → Option Value) (base : Heap) : Prop := FnX P w K mg base 2 "_law_in_order" 1 tOrd
theorem ok_order (T : Tx K mg) (D0 : Dfn K mg "_law_in_order" s__law_in_order ["_law_edges"]) (c__law_key : C__law_key P w K mg base := by assumption) : C__law_in_order P w K mg base := by
  refine FnX.of (k := 1) D0 sc__law_in_order rfl (fun rs Q Q' ⟨a, b, c, d, e, f, q⟩ w => ⟨a, b, c, d, e, f, w _ q⟩) (fun rs Q ⟨a, b, c, _⟩ => by rw [c]; rfl) fun f cdv A outer s H E hr => ⟨_, (pds_cons (pds_set (i := 1) sc__law_in_order.nd rfl (Or.inl rfl) (pd_lst pda_nil))
      (pds_cons (pds_for PassesOwn.never rfl (pdi_over (pd_var (pv 0))) (pdg_name (pg_name (i := 2) sc__law_in_order.nd rfl (Or.inl rfl))) (pds_one (pds_if (pdt_thaw (pdt_notInD (u65 hr) (pd_var (pv 2)) (pd_var (pv 1)))) (pds_one (pds_app (pv 1) (pd_var (pv 2)))) pds_nil)))
      (pds_cons (pds_set (i := 3) sc__law_in_order.nd rfl (Or.inl rfl) (pd_lst pda_nil))
      (pds_cons (pds_for PassesOwn.never rfl (pdi_over (pd_sortedL (u65 hr) (by rfl) T.b_sorted (pda_cons (pd_lc rfl sc__law_in_order.nd (pdi_over (pd_var (pv 1))) (blkOk_by (own := [("_law_edge", 2)]) (N := ["_law_edges", "_law_different", "_law_edge", "_law_found", "_law_key_here"]) (sc := defScope s__law_in_order) (by decide +kernel)) rfl (fun _ _ _ _ _ => (pdg_name (pg_name (i := 2) sc__law_in_order.nd rfl (Or.inl rfl)))) (fun _ _ _ _ _ => pdts_nil) (fun _ _ _ _ _ => (pd_fn c__law_key (hr.mono (by omega)) (by rfl) (pda_cons (pd_var (pv 2)) pda_nil)))) pda_nil))) (pdg_name (pg_name (i := 4) sc__law_in_order.nd rfl (Or.inr rfl))) (pds_one (pds_ext (pv 3) (pd_frz [4] (pd_lc rfl sc__law_in_order.nd (pdi_over (pd_var (pv 1))) (blkOk_by (own := [("_law_edge", 2)]) (N := ["_law_edges", "_law_different", "_law_edge", "_law_found", "_law_key_here"]) (sc := defScope s__law_in_order) (by decide +kernel)) rfl (fun _ _ _ _ _ => (pdg_name (pg_name (i := 2) sc__law_in_order.nd rfl (Or.inl rfl)))) (fun _ _ _ _ _ => (pdts_one (pdt_eq hr.units (pd_fn c__law_key (hr.mono (by omega)) (by rfl) (pda_cons (pd_var (pv 2)) pda_nil)) (pd_var (pv 4))))) (fun _ _ _ _ _ => (pd_var (pv 2))))))))
      (pds_one (pds_ret (pd_var (pv 3)))))))), fun rs Q h => ?_⟩
  obtain ⟨m, es, rfl, hm, hl, ok, q⟩ := h
  have z1 := sizeLine_eq
  refine ⟨Nat.zero_le _, ?_⟩
  refine forD_L (fun ds δ => ∃ (es' seen : List Ed) (s2 : Sl), ds = es'.map Ed.d ∧ (∀ e ∈ es', e.ok m) ∧ (∀ e ∈ seen, e.ok m) ∧ seen.length + es'.length ≤ 1000 ∧ seen ++ dedE seen es' = dedE [] es ∧ δ = [.dt (.lst (es.map Ed.d)), .ol (seen.map Ed.d), s2, .no, .no]) ?_ ?_ _ _ ⟨es, [], _, rfl, ok, fun _ h => (List.not_mem_nil h).elim, by simpa using hl, rfl, rfl⟩
  · rintro d ds δ N ⟨es', seen, s2, e1, o1, o2, l1, e2, rfl⟩ hN
    cases es' with
    | nil => cases e1
    | cons e es' =>
      cases e1
      rw [List.length_cons] at l1
      have s1 : SeqAt.shaped (py (.lst (seen.map Ed.d))) = true := lay_lst (c := 1000) (h := 1) (fun x hx => by
        obtain ⟨y, hy, rfl⟩ := List.mem_map.mp hx
        exact ed_bs hm (o2 y hy)) (by decide)
      refine ⟨ed_shaped e, s1, ?_⟩
      have ea : (if true = true then !(pyA (seen.map Ed.d)).any fun z => PyData.eqv z (py e.d) else (pyA (seen.map Ed.d)).any fun z => PyData.eqv z (py e.d)) = !decide (e ∈ seen) := by rw [if_pos rfl, ed_any]
      dsimp only [az, tdBool]
      rw [ea]
      rw [dedE] at e2
      refine if_both (a := !decide (e ∈ seen)) (fun c => ?_) fun c => ?_
      · have c : e ∉ seen := by simpa using c
        rw [if_neg c] at e2
        refine ⟨by rw [List.length_map]; omega, ?_⟩
        refine hN _ ⟨es', seen ++ [e], .dt e.d, rfl, fun x hx => o1 x (List.mem_cons_of_mem _ hx), fun x hx => ?_, by rw [List.length_append, List.length_singleton]; omega, by rw [List.append_assoc]; exact e2, ?_⟩
        · rcases List.mem_append.mp hx with hx | hx
          · exact o2 x hx
          · rw [List.mem_singleton.mp hx]; exact o1 e List.mem_cons_self
        · rw [List.map_append]; rfl
      · have c : e ∈ seen := by simpa using c
        rw [if_pos c] at e2
        exact hN _ ⟨es', seen, _, rfl, fun x hx => o1 x (List.mem_cons_of_mem _ hx), o2, by omega, e2, rfl⟩
  · rintro δ ⟨es', seen, s2, e1, o1, o2, l1, e2, rfl⟩
    have : es' = [] := by
      cases es' with
      | nil => rfl
      | cons _ _ => cases e1
    subst this
    rw [dedE, List.append_nil] at e2
    subst e2
    have dl := dedE_len es []
    refine ⟨Nat.zero_le _, ?_⟩
    refine ⟨by rw [List.length_map]; omega, ?_⟩
    refine comp_map Ed.d (fun e => kf_edge_key e.d) _ _ _ (fun e he C hC => ⟨e, rfl, hC _ rfl⟩) ?_
    rw [List.nil_append]
    refine ⟨keys_ok (by omega), ?_⟩
    rw [srtD_map]
    have hp := List.mergeSort_perm (dedE [] es) leE
    refine forD_L (fun ds δ => ∃ (rest done : List Ed) (s2 s4 : Sl), ds = rest.map (fun e => kf_edge_key e.d) ∧ done ++ rest = wEs es ∧ δ = [.dt (.lst (es.map Ed.d)), .dt (.lst ((dedE [] es).map Ed.d)), s2, .ol (done.map Ed.d), s4]) ?_ ?_ _ _ ⟨wEs es, [], _, _, rfl, rfl, rfl⟩
    · rintro d ds δ N ⟨rest, done, s2, s4, e1, e2, rfl⟩ hN
      cases rest with
      | nil => cases e1
      | cons e rest =>
        cases e1
        have me : e ∈ dedE [] es := hp.mem_iff.mp (by show e ∈ wEs es; rw [← e2]; exact List.mem_append_right _ List.mem_cons_self)
        have ln : (wEs es).length ≤ 1000 := by
          have := hp.length_eq
          unfold wEs; omega
        have ln2 : done.length + 1 ≤ 1000 := by
          rw [← e2, List.length_append, List.length_cons] at ln; omega
        refine ⟨by rw [List.length_map]; omega, ?_⟩
        refine comp_pure (p := fun d => PyData.eqv (py (kf_edge_key d)) (py (kf_edge_key e.d))) (f := fun d => d) _ _ _ (fun d hd C hC => ?_) (fun d hd _ C hC => hC _ rfl) ?_
        · obtain ⟨x, hx, rfl⟩ := List.mem_map.mp hd
          refine ⟨x, rfl, ?_⟩
          have k1 := key_shaped x
          have k2 := key_eq x
          have hC : C (PyData.eqv (py (kf_edge_key x.d)) (py (kf_edge_key e.d))) _ := hC
          dsimp only [az, tdVar]
          show fEq (kf_edge_key x.d) (kf_edge_key e.d) _ _
          rw [k2] at k1 hC ⊢
          exact fEq_tup k1 (key_shaped e) rfl hC
        · rw [pick_one (dedE_nd es []).1 me, List.map_id', List.nil_append]
          refine ⟨by rw [List.length_map]; show done.length + 1 ≤ _; omega, ?_⟩
          refine hN _ ⟨rest, done ++ [e], s2, .dt (kf_edge_key e.d), rfl, by rw [List.append_assoc]; exact e2, ?_⟩
          rw [List.map_append]; rfl
    · rintro δ ⟨rest, done, s2, s4, e1, e2, rfl⟩
      have : rest = [] := by
        cases rest with
        | nil => rfl
        | cons _ _ => cases e1
      subst this
      rw [List.append_nil] at e2
      subst e2
      exact q
end

end K31
set_option Elab.async false
set_option linter.all false
set_option maxRecDepth 100000
set_option maxHeartbeats 4000000
namespace K31
open PySem PySem.Spec PyProof.Rows L2 DL
/-! ### the edge that a name or range tells -/
def dO : D → Option Int
  | .int i => some i
  | _ => none
def limE (here a : Nat) : Option Int → Option Int → Option Ed
  | some l, some h => if decide (l ≤ h) = true then some ⟨here, a, some l, some h⟩ else none
  | l, h => some ⟨here, a, l, h⟩
def edgeIn (here a : Nat) : Rd → Option Ed
  | .nm _ (.tup [.str w, .int i]) => if decide (w = "by") = true then some ⟨here, a, some i, some i⟩ else none
  | .nm _ _ => none
  | .rg _ lo hi => limE here a (dO lo) (dO hi)
def edgeOf (many here : Nat) (x : Rd) : Option Ed := match colOf x.part (here : Int) with
  | .int a => if (decide (0 ≤ a) && decide (a < (many : Int))) = true then edgeIn here a.toNat x else none
  | _ => none
def edO : Option Ed → D
  | none => .non
  | some e => e.d
/-- the edges of the bodies, in order -/
def wbE (many : Nat) : Nat → List Col → List Ed
  | _, [] => []
  | k, c :: cs => c.b.rds.filterMap (edgeOf many k) ++ wbE many (k + 1) cs
section
variable {P : Program} {w : World} {K : PySem.W.Frag} {mg : Str → Option Value} {base : Heap}
def tEdge : TF := fun rs Q => ∃ (x : Rd) (here many : Nat), rs = [.dt x.d, .dt (.int here), .dt (.int many)] ∧ x.ok ∧ Q (.dt (edO (edgeOf many here x)))
abbrev C_edge_of (P : Program) (w : World) (K : PySem.W.Frag) (mg : Str → Option Value) (base : Heap) : Prop := FnX P w K mg base 2 "edge_of" 3 tEdge
theorem ok_edge_of (T : Tx K mg) (D0 : Dfn K mg "edge_of" s_edge_of ["read", "here", "many"]) (c_column_of : C_column_of P w K mg base := by assumption) : C_edge_of P w K mg base := by
  refine FnX.of (k := 1) D0 sc_edge_of rfl (fun rs Q Q' ⟨a, b, c, d, e, q⟩ w => ⟨a, b, c, d, e, w _ q⟩) (fun rs Q ⟨a, b, c, d, _⟩ => by rw [d]; rfl) fun f cdv A outer s H E hr => ⟨_, (pds_cons (pds_set (i := 3) sc_edge_of.nd rfl (Or.inl rfl) (pd_fn c_column_of (hr.mono (by omega)) (by rfl) (pda_cons (pd_var (pv 0)) (pda_cons (pd_var (pv 1)) pda_nil))))
      (pds_cons (pds_if (PDW.t (pdw_or (pdt_isN (pd_var (pv 3)) (pd_c pe_non fun _ => .non)) (pdw_or1 (pdt_not (pdt_chain op_le op_lt mono_fLe mono_fLt (opS_I0 fun _ _ _ => .bl _) (opS_I0 fun _ _ _ => .bl _) (pd_c pe_int fun _ => .int _) (pd_var (pv 3)) (pd_var (pv 2))))))) (pds_one (pds_ret (pd_c pe_non fun _ => .non))) pds_nil)
      (pds_cons (pds_if (pdt_eq hr.units (pd_ixV (pdv_var (pv 0)) (pdv_of (pd_c pe_int fun _ => .int _)) (fun _ _ => rfl)) (pd_c pe_str fun _ => .str _)) (pds_one (pds_ret (pd_if (pdt_eq hr.units (pd_ix (pd_ixV (pdv_var (pv 0)) (pdv_of (pd_c pe_int fun _ => .int _)) (fun _ _ => rfl)) (pd_c pe_int fun _ => .int _) (fun _ _ => rfl)) (pd_c pe_str fun _ => .str _)) (pd_tup (pda_cons (pd_var (pv 1)) (pda_cons (pd_var (pv 3)) (pda_cons (pd_ix (pd_ixV (pdv_var (pv 0)) (pdv_of (pd_c pe_int fun _ => .int _)) (fun _ _ => rfl)) (pd_c pe_int fun _ => .int _) (fun _ _ => rfl)) (pda_cons (pd_ix (pd_ixV (pdv_var (pv 0)) (pdv_of (pd_c pe_int fun _ => .int _)) (fun _ _ => rfl)) (pd_c pe_int fun _ => .int _) (fun _ _ => rfl)) pda_nil))))) (pd_c pe_non fun _ => .non)))) pds_nil)
      (pds_cons (pds_par2 (i := 4) (j := 5) rfl sc_edge_of.nd rfl rfl (by decide) rfl rfl (pd_ixV (pdv_var (pv 0)) (pdv_of (pd_c pe_int fun _ => .int _)) (fun _ _ => rfl)) (pd_ixV (pdv_var (pv 0)) (pdv_of (pd_c pe_int fun _ => .int _)) (fun _ _ => rfl)) (by rfl))
      (pds_one (pds_ret (pd_if (PDW.t (pdw_or (pdt_isN (pd_var (pv 4)) (pd_c pe_non fun _ => .non)) (pdw_or (pdt_isN (pd_var (pv 5)) (pd_c pe_non fun _ => .non)) (pdw_or1 (pdt_le (pd_var (pv 4)) (pd_var (pv 5))))))) (pd_tup (pda_cons (pd_var (pv 1)) (pda_cons (pd_var (pv 3)) (pda_cons (pd_var (pv 4)) (pda_cons (pd_var (pv 5)) pda_nil))))) (pd_c pe_non fun _ => .non)))))))), fun rs Q h => ?_⟩
  obtain ⟨x, here, many, rfl, ok, q⟩ := h
  obtain ⟨rd, pt⟩ := rd_read ok
  have hco : (∃ a, colOf x.part (here : Int) = .int a) ∨ colOf x.part (here : Int) = .non := by
    have hp : isPart x.part = true := by cases x <;> exact ok.1
    rcases part_cases hp with e | ⟨i, e⟩ | ⟨i, e, _⟩ <;> rw [e]
    · exact .inr rfl
    · exact .inl ⟨_, rfl⟩
    · exact .inl ⟨_, rfl⟩
  refine ⟨rd, ?_⟩
  rw [pt]
  rcases hco with ⟨a, ea⟩ | ea
  · have q' : Q (.dt (edO (if (decide (0 ≤ a) && decide (a < (many : Int))) = true then edgeIn here a.toNat x else none))) := by
      unfold edgeOf at q; rw [ea] at q; exact q
    rw [ea]
    refine if_both (a := decide (0 ≤ a)) (fun e1 => ?_) fun e1 => ?_
    · refine if_both (a := !decide (a < (many : Int))) (fun e2 => ?_) fun e2 => ?_
      · rw [Bool.not_eq_true'] at e2
        rw [e1, e2] at q'
        exact q'
      · rw [Bool.not_eq_false'] at e2
        rw [e1, e2] at q'
        obtain ⟨k, rfl⟩ := Int.eq_ofNat_of_zero_le (of_decide_eq_true e1)
        have q' : Q (.dt (edO (edgeIn here k x))) := q'
        cases x with
        | nm pc row =>
          rw [Rd.d]
          rcases row_cases ok.2 with ⟨w, rfl, hw⟩ | ⟨w, i, rfl, hw⟩
          · rcases in_two hw with rfl | rfl
            · (repeat (first | refine ⟨_, atI_zero, ?_⟩ | refine ⟨_, atI_of (j := 1) rfl rfl, ?_⟩ | refine ⟨_, atI_of (j := 2) rfl rfl, ?_⟩ | refine ⟨_, atI_of (j := 3) rfl rfl, ?_⟩ | refine ⟨_, atI_of (j := 4) rfl rfl, ?_⟩ | refine ⟨_, atI_of (j := 5) rfl rfl, ?_⟩ | refine ⟨le_szL rfl, ?_⟩ | refine ⟨rfl, rfl, ?_⟩)); exact q'
            · (repeat (first | refine ⟨_, atI_zero, ?_⟩ | refine ⟨_, atI_of (j := 1) rfl rfl, ?_⟩ | refine ⟨_, atI_of (j := 2) rfl rfl, ?_⟩ | refine ⟨_, atI_of (j := 3) rfl rfl, ?_⟩ | refine ⟨_, atI_of (j := 4) rfl rfl, ?_⟩ | refine ⟨_, atI_of (j := 5) rfl rfl, ?_⟩ | refine ⟨le_szL rfl, ?_⟩ | refine ⟨rfl, rfl, ?_⟩)); exact q'
          · rcases hw with rfl | ⟨rfl, _⟩
            · (repeat (first | refine ⟨_, atI_zero, ?_⟩ | refine ⟨_, atI_of (j := 1) rfl rfl, ?_⟩ | refine ⟨_, atI_of (j := 2) rfl rfl, ?_⟩ | refine ⟨_, atI_of (j := 3) rfl rfl, ?_⟩ | refine ⟨_, atI_of (j := 4) rfl rfl, ?_⟩ | refine ⟨_, atI_of (j := 5) rfl rfl, ?_⟩ | refine ⟨le_szL rfl, ?_⟩ | refine ⟨rfl, rfl, ?_⟩)); exact q'
            · (repeat (first | refine ⟨_, atI_zero, ?_⟩ | refine ⟨_, atI_of (j := 1) rfl rfl, ?_⟩ | refine ⟨_, atI_of (j := 2) rfl rfl, ?_⟩ | refine ⟨_, atI_of (j := 3) rfl rfl, ?_⟩ | refine ⟨_, atI_of (j := 4) rfl rfl, ?_⟩ | refine ⟨_, atI_of (j := 5) rfl rfl, ?_⟩ | refine ⟨le_szL rfl, ?_⟩ | refine ⟨rfl, rfl, ?_⟩)); exact q'
        | rg pc lo hi =>
          rw [Rd.d]
          rcases lim_cases ok.2.1 with rfl | ⟨i, rfl⟩ <;> rcases lim_cases ok.2.2 with rfl | ⟨j, rfl⟩
          · (repeat (first | refine ⟨_, atI_zero, ?_⟩ | refine ⟨_, atI_of (j := 1) rfl rfl, ?_⟩ | refine ⟨_, atI_of (j := 2) rfl rfl, ?_⟩ | refine ⟨_, atI_of (j := 3) rfl rfl, ?_⟩ | refine ⟨_, atI_of (j := 4) rfl rfl, ?_⟩ | refine ⟨_, atI_of (j := 5) rfl rfl, ?_⟩ | refine ⟨le_szL rfl, ?_⟩ | refine ⟨rfl, rfl, ?_⟩)); exact q'
          · (repeat (first | refine ⟨_, atI_zero, ?_⟩ | refine ⟨_, atI_of (j := 1) rfl rfl, ?_⟩ | refine ⟨_, atI_of (j := 2) rfl rfl, ?_⟩ | refine ⟨_, atI_of (j := 3) rfl rfl, ?_⟩ | refine ⟨_, atI_of (j := 4) rfl rfl, ?_⟩ | refine ⟨_, atI_of (j := 5) rfl rfl, ?_⟩ | refine ⟨le_szL rfl, ?_⟩ | refine ⟨rfl, rfl, ?_⟩)); exact q'
          · (repeat (first | refine ⟨_, atI_zero, ?_⟩ | refine ⟨_, atI_of (j := 1) rfl rfl, ?_⟩ | refine ⟨_, atI_of (j := 2) rfl rfl, ?_⟩ | refine ⟨_, atI_of (j := 3) rfl rfl, ?_⟩ | refine ⟨_, atI_of (j := 4) rfl rfl, ?_⟩ | refine ⟨_, atI_of (j := 5) rfl rfl, ?_⟩ | refine ⟨le_szL rfl, ?_⟩ | refine ⟨rfl, rfl, ?_⟩)); exact q'
          · (repeat (first | refine ⟨_, atI_zero, ?_⟩ | refine ⟨_, atI_of (j := 1) rfl rfl, ?_⟩ | refine ⟨_, atI_of (j := 2) rfl rfl, ?_⟩ | refine ⟨_, atI_of (j := 3) rfl rfl, ?_⟩ | refine ⟨_, atI_of (j := 4) rfl rfl, ?_⟩ | refine ⟨_, atI_of (j := 5) rfl rfl, ?_⟩ | refine ⟨le_szL rfl, ?_⟩ | refine ⟨rfl, rfl, ?_⟩))
            have q' : Q (.dt (edO (if decide (i ≤ j) = true then some ⟨here, k, some i, some j⟩ else none))) := q'
            refine if_both (a := decide (i ≤ j)) (fun e => ?_) fun e => ?_
            · rw [e] at q'; exact ⟨le_szL rfl, q'⟩
            · rw [e] at q'; exact q'
    · rw [e1] at q'; exact q'
  · have q' : Q (.dt .non) := by
      unfold edgeOf at q; rw [ea] at q; exact q
    rw [ea]
    exact q'
def webS (C xa : Addr) (m : Nat) (es : List Ed) : Sl := .oI xa C ["kept_columns", "kept_edges"] [.tup (zs 0 m), .tup (es.map Ed.d)]
def tWebOf (S C : Addr) : TF := fun rs Q => ∃ cs : List Col, rs = [.dt (sheetD S cs)] ∧ cs.length ≤ 8 ∧ (∀ c ∈ cs, c.Fine) ∧ (wbE cs.length 0 cs).length ≤ 48 ∧ (∀ e ∈ wbE cs.length 0 cs, e.ok cs.length) ∧ ∀ xa, Q (webS C xa cs.length (wEs (wbE cs.length 0 cs)))
abbrev C_web_of (P : Program) (w : World) (K : PySem.W.Frag) (mg : Str → Option Value) (base : Heap) : Prop := FnX P w K mg base 10 "web_of" 1 (tWebOf (He.ga K "Sheet") (He.ga K "Web"))
theorem ok_web_of (T : Tx K mg) (D0 : Dfn K mg "web_of" s_web_of ["sheet"]) (c_reads : C_reads 5 P w K mg base) (m_Sheet___len__ : M_len P w K mg base) (m_Sheet_columns : M_columns P w K mg base) (i_Web : I_Web P w K mg base) (c_edge_of : C_edge_of P w K mg base := by assumption) : C_web_of P w K mg base := by
  refine FnX.of (k := 9) D0 sc_web_of rfl (fun rs Q Q' ⟨a, b, c, d, e, f, q⟩ w => ⟨a, b, c, d, e, f, fun xa => w _ (q xa)⟩) (fun rs Q ⟨a, b, _⟩ => by rw [b]; rfl) fun f cdv A outer s H E hr => ⟨_, (pds_cons (pds_parO (i := 1) (j := 2) (pd_lenO m_Sheet___len__ (hr.mono (by omega)) (by rfl) T.b_len (pda_cons (pd_var (pv 0)) pda_nil)) (pd_lst pda_nil) (pg_tup rfl (pgs_cons (pg_name (i := 1) sc_web_of.nd rfl (Or.inr rfl)) (pgs_cons (pg_name (i := 2) sc_web_of.nd rfl (Or.inl rfl)) pgs_nil))))
      (pds_cons (pds_for PassesOwn.never rfl (pdi_enum (by rfl) T.b_enumerate (pda_cons (pd_meth0 m_Sheet_columns (hr.mono (by omega)) (pd_var (pv 0))) pda_nil)) (pdg_nest (is := [4, 5, 6]) (pg_tup rfl (pgs_cons (pg_name (i := 3) sc_web_of.nd rfl (Or.inr rfl)) (pgs_cons (pg_tup rfl (pgs_cons (pg_name (i := 4) sc_web_of.nd rfl (Or.inl rfl)) (pgs_cons (pg_name (i := 5) sc_web_of.nd rfl (Or.inl rfl)) (pgs_cons (pg_name (i := 6) sc_web_of.nd rfl (Or.inl rfl)) pgs_nil)))) pgs_nil))) rfl) (pds_one (pds_ext (pv 2) (pd_frz [3, 1] (pd_lc rfl sc_web_of.nd (pdi_over (pd_fn c_reads (hr.mono (by omega)) (by rfl) (pda_cons (pd_var (pv 5)) pda_nil))) (blkOk_by (own := [("read", 7)]) (N := ["sheet", "many", "found", "here", "head", "body", "foot", "read", "edge"]) (sc := defScope s_web_of) (by decide +kernel)) rfl (fun _ _ _ _ _ => (pdg_name (pg_name (i := 7) sc_web_of.nd rfl (Or.inl rfl)))) (fun _ _ _ _ _ => pdts_nil) (fun _ _ _ _ _ => (pd_fn c_edge_of (hr.mono (by omega)) (by rfl) (pda_cons (pd_var (pv 7)) (pda_cons (pd_var (pv 3)) (pda_cons (pd_var (pv 1)) pda_nil))))))))))
      (pds_one (pds_ret (pd_new i_Web (hr.mono (by omega)) (by rfl) (pda_cons (pd_var (pv 1)) (pda_cons (pd_lc rfl sc_web_of.nd (pdi_over (pd_var (pv 2))) (blkOk_by (own := [("edge", 8)]) (N := ["sheet", "many", "found", "here", "head", "body", "foot", "read", "edge"]) (sc := defScope s_web_of) (by decide +kernel)) rfl (fun _ _ _ _ _ => (pdg_name (pg_name (i := 8) sc_web_of.nd rfl (Or.inl rfl)))) (fun _ _ _ _ _ => (pdts_one (pdt_notN (pd_var (pv 8)) (pd_c pe_non fun _ => .non)))) (fun _ _ _ _ _ => (pd_var (pv 8)))) pda_nil))))))), fun rs Q h => ?_⟩
  obtain ⟨cs, rfl, hl, fi, l48, ok, q⟩ := h
  have z1 := sizeLine_eq
  refine ⟨rfl, cs, rfl, _, rfl, (by omega : (0 : Int) ≤ ((cs.length : Nat) : Int)), (by omega : ((cs.length : Nat) : Int) < 2 ^ 63), ?_⟩
  refine ⟨Nat.zero_le _, ?_⟩
  refine ⟨rfl, by decide, cs, rfl, by omega, ?_⟩
  refine forD_L (fun ds δ => ∃ (k : Nat) (cs' : List Col) (done : List (Option Ed)) (s3 s4 s5 s6 : Sl), ds = enumD k (cs'.map Col.d) ∧ (∀ c ∈ cs', c.Fine) ∧ done.length ≤ k * 100000 ∧ k + cs'.length ≤ 8 ∧ done.filterMap id ++ wbE cs.length k cs' = wbE cs.length 0 cs ∧ δ = [.dt (sheetD (He.ga K "Sheet") cs), .dt (.int cs.length), .ol (done.map edO), s3, s4, s5, s6, .no, .no]) ?_ ?_ _ _ ⟨0, cs, [], _, _, _, _, rfl, fi, Nat.zero_le _, by omega, rfl, rfl⟩
  · rintro d ds δ N ⟨k, cs', done, s3, s4, s5, s6, e1, f1, l1, k1, e2, rfl⟩ hN
    cases cs' with
    | nil => cases e1
    | cons c cs' =>
      cases e1
      have fc := f1 c List.mem_cons_self
      have rl : c.b.rds.length ≤ 100000 := Nat.le_trans (rds_sz _) fc.b.sm.sz
      refine ⟨rfl, ?_⟩
      refine ⟨c.b, rfl, fc.b.sm, by rw [List.length_map]; omega, ?_⟩
      refine comp_map Rd.d (fun x => edO (edgeOf cs.length k x)) _ _ _ (fun x hx C hC => ⟨x, k, cs.length, rfl, fc.b.rds x hx, hC _ rfl⟩) ?_
      rw [List.nil_append]
      have hk : k ≤ 7 := by rw [List.length_cons] at k1; omega
      have hd : done.length ≤ 700000 := by omega
      refine ⟨by rw [List.length_map, List.length_map]; omega, ?_⟩
      refine hN _ ⟨k + 1, cs', done ++ c.b.rds.map (edgeOf cs.length k), .dt (.int (k : Nat)), .dt c.h.d, .dt c.b.d, .dt c.f.d, rfl, fun c h => f1 c (List.mem_cons_of_mem _ h), by rw [List.length_append, List.length_map]; omega, by rw [List.length_cons] at k1; omega, ?_, ?_⟩
      · rw [List.filterMap_append, List.filterMap_map]
        rw [wbE] at e2
        rw [List.append_assoc]
        exact e2
      · rw [List.map_append, List.map_map]; rfl
  · rintro δ ⟨k, cs', done, s3, s4, s5, s6, e1, f1, l1, k1, e2, rfl⟩
    have : cs' = [] := by
      cases cs' with
      | nil => rfl
      | cons _ _ => cases e1
    subst this
    rw [wbE, List.append_nil] at e2
    refine ⟨by rw [List.length_map]; omega, ?_⟩
    refine comp_pure (p := fun d => !nonD d) (f := fun d => d) _ _ _ (fun d hd C hC => ?_) (fun d hd _ C hC => hC _ rfl) ?_
    · obtain ⟨o, _, rfl⟩ := List.mem_map.mp hd
      cases o with
      | none => exact hC
      | some e => exact hC
    · rw [List.map_id', List.nil_append]
      have ef : (done.map edO).filter (fun d => !nonD d) = (wbE cs.length 0 cs).map Ed.d := by
        rw [← e2]
        clear e2 l1
        induction done with
        | nil => rfl
        | cons o os ih =>
          cases o with
          | none => exact ih
          | some e => exact congrArg (e.d :: ·) ih
      rw [ef]
      exact ⟨cs.length, _, rfl, hl, l48, ok, fun xa => q xa⟩
end

end K31
set_option Elab.async false
set_option linter.all false
set_option maxRecDepth 100000
set_option maxHeartbeats 4000000
namespace K31
open PySem PySem.Spec PyProof.Rows L2 DL
/-! ### names and ranges that the law draws, and their edges -/
def oN : Option Nat → D
  | none => .non
  | some k => .int (k : Nat)
theorem lim_b {o : Option Int} (h : ∀ i, o = some i → -5 ≤ i ∧ i ≤ 5) : oD o = .non ∨ ∃ i : Int, oD o = .int i ∧ i.natAbs < 100 := by
  cases o with
  | none => exact .inl rfl
  | some i => have := h i rfl; exact .inr ⟨i, rfl, by omega⟩
theorem dO_oD (o : Option Int) : dO (oD o) = o := by cases o <;> rfl
def isGt : Option Int → Option Int → Bool
  | some l, some h => decide (h < l)
  | _, _ => false
theorem limE_eq (here k : Nat) (lo hi : Option Int) : limE here k lo hi = if isGt lo hi = true then none else some ⟨here, k, lo, hi⟩ := by
  cases lo with
  | none => rfl
  | some l =>
    cases hi with
    | none => rfl
    | some h =>
      show (if decide (l ≤ h) = true then some _ else none) = if decide (h < l) = true then none else some _
      by_cases e : l ≤ h
      · rw [decide_eq_true e, decide_eq_false (by omega)]; rfl
      · rw [decide_eq_false e, decide_eq_true (by omega)]; rfl
theorem there_of {many here : Nat} {c : D} (hp : isPart c = true) : ∃ o : Option Nat, (∀ k, o = some k → k < many) ∧ (∀ x : Rd, x.part = c → edgeOf many here x = o.bind fun k => edgeIn here k x) ∧
    ((colOf c (here : Int) = .non ∧ o = none) ∨ ∃ a : Int, colOf c (here : Int) = .int a ∧ ((decide (0 ≤ a) && decide (a < (many : Int))) = false ∧ o = none ∨ (decide (0 ≤ a) && decide (a < (many : Int))) = true ∧ 0 ≤ a ∧ a < many ∧ o = some a.toNat)) := by
  have hco : (∃ a, colOf c (here : Int) = .int a) ∨ colOf c (here : Int) = .non := by
    rcases part_cases hp with e | ⟨i, e⟩ | ⟨i, e, _⟩ <;> rw [e]
    · exact .inr rfl
    · exact .inl ⟨_, rfl⟩
    · exact .inl ⟨_, rfl⟩
  rcases hco with ⟨a, ea⟩ | ea
  · by_cases h : (decide (0 ≤ a) && decide (a < (many : Int))) = true
    · have h' := h
      rw [Bool.and_eq_true, decide_eq_true_eq, decide_eq_true_eq] at h'
      refine ⟨some a.toNat, fun k e => by cases e; omega, fun x hx => ?_, .inr ⟨a, ea, .inr ⟨h, h'.1, h'.2, rfl⟩⟩⟩
      unfold edgeOf
      rw [hx, ea]
      dsimp only
      rw [if_pos h]; rfl
    · refine ⟨none, fun k e => (by cases e), fun x hx => ?_, .inr ⟨a, ea, .inl ⟨by simpa using h, rfl⟩⟩⟩
      unfold edgeOf
      rw [hx, ea]
      dsimp only
      rw [if_neg h]; rfl
  · refine ⟨none, fun k e => (by cases e), fun x hx => ?_, .inl ⟨ea, rfl⟩⟩
    unfold edgeOf
    rw [hx, ea]; rfl
section
variable {P : Program} {w : World} {K : PySem.W.Frag} {mg : Str → Option Value} {base : Heap}
def tLRead : TF := fun rs Q => ∃ many here : Nat, rs = [.bag, .dt (.int many), .dt (.int here)] ∧ here < many ∧ many ≤ 8 ∧ ∀ x : Rd, RdP "body" x → (∀ e, edgeOf many here x = some e → e.ok many) → Q (.dt (.tup [x.d, edO (edgeOf many here x)]))
abbrev C__law_read (P : Program) (w : World) (K : PySem.W.Frag) (mg : Str → Option Value) (base : Heap) : Prop := FnX P w K mg base 3 "_law_read" 3 tLRead
theorem ok_lread (T : Tx K mg) (D0 : Dfn K mg "_law_read" s__law_read ["_law_bag_here", "_law_many", "_law_here"]) (c__law_take : CTake P w K mg base) (c__law_one : COne P w K mg base) : C__law_read P w K mg base := by
  refine FnX.of (k := 2) D0 sc__law_read rfl (fun rs Q Q' ⟨a, b, c, d, e, q⟩ w => ⟨a, b, c, d, e, fun x h1 h2 => w _ (q x h1 h2)⟩) (fun rs Q ⟨a, b, c, _⟩ => by rw [c]; rfl) fun f cdv A outer s H E hr => ⟨_, (pds_cons (pds_set (i := 3) sc__law_read.nd rfl (Or.inl rfl) (pd_fn c__law_one (hr.mono (by omega)) (by rfl) (pda_cons (pd_var (pv 0)) (pda_cons (pd_lst (pda_cons (pd_tup (pda_cons (pd_c pe_str fun _ => .str _) (pda_cons (pd_c pe_int fun _ => .int _) pda_nil))) (pda_cons (pd_tup (pda_cons (pd_c pe_str fun _ => .str _) (pda_cons (pd_sub (pd_fn c__law_take (hr.mono (by omega)) (by rfl) (pda_cons (pd_var (pv 0)) (pda_cons (pd_c pe_int fun _ => .int _) pda_nil))) (pd_c pe_int fun _ => .int _)) pda_nil))) (pda_cons (pd_tup (pda_cons (pd_c pe_str fun _ => .str _) (pda_cons (pd_fn c__law_take (hr.mono (by omega)) (by rfl) (pda_cons (pd_var (pv 0)) (pda_cons (pd_c pe_int fun _ => .int _) pda_nil))) pda_nil))) (pda_cons (pd_tup (pda_cons (pd_c pe_str fun _ => .str _) (pda_cons (pd_c pe_int fun _ => .int _) pda_nil))) (pda_cons (pd_tup (pda_cons (pd_c pe_str fun _ => .str _) (pda_cons (pd_neg (pd_c pe_int fun _ => .int _)) pda_nil))) pda_nil)))))) pda_nil))))
      (pds_cons (pds_if (pdt_eq hr.units (pd_fn c__law_take (hr.mono (by omega)) (by rfl) (pda_cons (pd_var (pv 0)) (pda_cons (pd_c pe_int fun _ => .int _) pda_nil))) (pd_c pe_int fun _ => .int _)) (pds_one (pds_set (i := 3) sc__law_read.nd rfl (Or.inl rfl) (pd_tup (pda_cons (pd_c pe_str fun _ => .str _) pda_nil)))) pds_nil)
      (pds_cons (pds_set (i := 4) sc__law_read.nd rfl (Or.inl rfl) (pd_if (pdt_eq hr.units (pd_ixV (pdv_var (pv 3)) (pdv_of (pd_c pe_int fun _ => .int _)) (fun _ _ => rfl)) (pd_c pe_str fun _ => .str _)) (pd_c pe_non fun _ => .non) (pd_if (pdt_eq hr.units (pd_ixV (pdv_var (pv 3)) (pdv_of (pd_c pe_int fun _ => .int _)) (fun _ _ => rfl)) (pd_c pe_str fun _ => .str _)) (pd_ixV (pdv_var (pv 3)) (pdv_of (pd_c pe_int fun _ => .int _)) (fun _ _ => rfl)) (pd_addV (pdv_var (pv 2)) (pdv_of (pd_ixV (pdv_var (pv 3)) (pdv_of (pd_c pe_int fun _ => .int _)) (fun _ _ => rfl)))))))
      (pds_cons (pds_set (i := 4) sc__law_read.nd rfl (Or.inl rfl) (pd_if (PDW.t (pdw_and (pdt_notN (pd_var (pv 4)) (pd_c pe_non fun _ => .non)) (pdw_and1 (pdt_chain op_le op_lt mono_fLe mono_fLt (opS_I0 fun _ _ _ => .bl _) (opS_I0 fun _ _ _ => .bl _) (pd_c pe_int fun _ => .int _) (pd_var (pv 4)) (pd_var (pv 1)))))) (pd_var (pv 4)) (pd_c pe_non fun _ => .non)))
      (pds_cons (pds_if (pdt_eq hr.units (pd_fn c__law_take (hr.mono (by omega)) (by rfl) (pda_cons (pd_var (pv 0)) (pda_cons (pd_c pe_int fun _ => .int _) pda_nil))) (pd_c pe_int fun _ => .int _)) (pds_cons (pds_set (i := 5) sc__law_read.nd rfl (Or.inl rfl) (pd_fn c__law_one (hr.mono (by omega)) (by rfl) (pda_cons (pd_var (pv 0)) (pda_cons (pd_lst (pda_cons (pd_c pe_non fun _ => .non) (pda_cons (pd_sub (pd_fn c__law_take (hr.mono (by omega)) (by rfl) (pda_cons (pd_var (pv 0)) (pda_cons (pd_c pe_int fun _ => .int _) pda_nil))) (pd_c pe_int fun _ => .int _)) pda_nil))) pda_nil))))
      (pds_cons (pds_set (i := 6) sc__law_read.nd rfl (Or.inl rfl) (pd_fn c__law_one (hr.mono (by omega)) (by rfl) (pda_cons (pd_var (pv 0)) (pda_cons (pd_lst (pda_cons (pd_c pe_non fun _ => .non) (pda_cons (pd_sub (pd_fn c__law_take (hr.mono (by omega)) (by rfl) (pda_cons (pd_var (pv 0)) (pda_cons (pd_c pe_int fun _ => .int _) pda_nil))) (pd_c pe_int fun _ => .int _)) (pda_cons (pd_neg (pd_c pe_int fun _ => .int _)) pda_nil)))) pda_nil))))
      (pds_cons (pds_set (i := 7) sc__law_read.nd rfl (Or.inl rfl) (pd_and (pd_notN (pd_var (pv 5)) (pd_c pe_non fun _ => .non)) (pd_and (pd_notN (pd_var (pv 6)) (pd_c pe_non fun _ => .non)) (pd_one (pd_gt (pd_var (pv 5)) (pd_var (pv 6)))))))
      (pds_one (pds_ret (pd_tup (pda_cons (pd_tup (pda_cons (pd_c pe_str fun _ => .str _) (pda_cons (pd_var (pv 3)) (pda_cons (pd_var (pv 5)) (pda_cons (pd_var (pv 6)) pda_nil))))) (pda_cons (pd_if (PDW.t (pdw_or (pdt_isN (pd_var (pv 4)) (pd_c pe_non fun _ => .non)) (pdw_or1 (pdt_tru (pd_var (pv 7)))))) (pd_c pe_non fun _ => .non) (pd_tup (pda_cons (pd_var (pv 2)) (pda_cons (pd_var (pv 4)) (pda_cons (pd_var (pv 5)) (pda_cons (pd_var (pv 6)) pda_nil)))))) pda_nil)))))))) pds_nil)
      (pds_cons (pds_set (i := 8) sc__law_read.nd rfl (Or.inl rfl) (pd_fn c__law_one (hr.mono (by omega)) (by rfl) (pda_cons (pd_var (pv 0)) (pda_cons (pd_lst (pda_cons (pd_c pe_int fun _ => .int _) (pda_cons (pd_neg (pd_c pe_int fun _ => .int _)) (pda_cons (pd_neg (pd_c pe_int fun _ => .int _)) (pda_cons (pd_c pe_int fun _ => .int _) (pda_cons (pd_sub (pd_fn c__law_take (hr.mono (by omega)) (by rfl) (pda_cons (pd_var (pv 0)) (pda_cons (pd_c pe_int fun _ => .int _) pda_nil))) (pd_c pe_int fun _ => .int _)) pda_nil)))))) pda_nil))))
      (pds_cons (pds_set (i := 9) sc__law_read.nd rfl (Or.inl rfl) (pd_fn c__law_one (hr.mono (by omega)) (by rfl) (pda_cons (pd_var (pv 0)) (pda_cons (pd_lst (pda_cons (pd_tup (pda_cons (pd_c pe_str fun _ => .str _) (pda_cons (pd_var (pv 8)) pda_nil))) (pda_cons (pd_tup (pda_cons (pd_c pe_str fun _ => .str _) (pda_cons (pd_var (pv 8)) pda_nil))) (pda_cons (pd_tup (pda_cons (pd_c pe_str fun _ => .str _) (pda_cons (pd_var (pv 8)) pda_nil))) (pda_cons (pd_tup (pda_cons (pd_c pe_str fun _ => .str _) pda_nil)) pda_nil))))) pda_nil))))
      (pds_one (pds_ret (pd_tup (pda_cons (pd_tup (pda_cons (pd_c pe_str fun _ => .str _) (pda_cons (pd_var (pv 3)) (pda_cons (pd_var (pv 9)) pda_nil)))) (pda_cons (pd_if (PDW.t (pdw_or (pdt_isN (pd_var (pv 4)) (pd_c pe_non fun _ => .non)) (pdw_or1 (pdt_eq hr.units (pd_var (pv 9)) (pd_tup (pda_cons (pd_c pe_str fun _ => .str _) pda_nil)))))) (pd_c pe_non fun _ => .non) (pd_tup (pda_cons (pd_var (pv 2)) (pda_cons (pd_var (pv 4)) (pda_cons (pd_var (pv 8)) (pda_cons (pd_var (pv 8)) pda_nil)))))) pda_nil)))))))))))), fun rs Q h => ?_⟩
  obtain ⟨many, here, rfl, h1, h2, q⟩ := h
  have z1 := sizeLine_eq
  dsimp only [startD, List.cons_append, List.nil_append]
  refine seq_N (fun δ => ∃ c, PartP c ∧ δ = [.bag, .dt (.int many), .dt (.int here), .dt c, .no, .no, .no, .no, .no, .no]) ?_ ?_
  · intro N hN
    refine ⟨le_szL rfl, by decide, by decide, fun d d0 d1 => ⟨le_szL rfl, by decide, by decide, fun e e0 e1 => ⟨le_szL rfl, le_szL rfl, le_szL rfl, le_szL rfl, Nat.lt_of_lt_of_le (by decide : (0 : Nat) < 5) (Nat.le_of_ble_eq_true rfl), Nat.lt_of_le_of_lt (Nat.le_of_ble_eq_true rfl : _ ≤ 100) (by decide), fun i x hx => hN _ ⟨x, ?_, rfl⟩⟩⟩⟩
    have hm := List.mem_of_getElem? hx
    simp only [List.mem_cons, List.not_mem_nil, or_false] at hm
    rcases hm with rfl | rfl | rfl | rfl | rfl
    · exact partP_by (by decide)
    · exact partP_by (by omega)
    · exact partP_at e0 (by omega)
    · exact partP_by (by decide)
    · exact partP_by (by decide)
  rintro δ ⟨c, hc, rfl⟩
  refine seq_N (fun δ => ∃ c, PartP c ∧ δ = [.bag, .dt (.int many), .dt (.int here), .dt c, .no, .no, .no, .no, .no, .no]) ?_ ?_
  · intro N hN
    refine ⟨by decide, by decide, fun d d0 d1 => ⟨rfl, rfl, ?_⟩⟩
    refine if_both (fun _ => ⟨le_szL rfl, hN _ ⟨_, partP_lost, rfl⟩⟩) fun _ => hN _ ⟨c, hc, rfl⟩
  rintro δ ⟨c, hc, rfl⟩
  obtain ⟨o, ok, oe, oc⟩ := there_of (many := many) (here := here) hc.1
  refine seq_N (fun δ => δ = [.bag, .dt (.int many), .dt (.int here), .dt c, .dt (colOf c (here : Int)), .no, .no, .no, .no, .no]) ?_ ?_
  · intro N hN
    rcases part_cases hc.1 with e | ⟨i, e⟩ | ⟨i, e, _⟩ <;> subst e
    · (repeat (first | refine ⟨_, atI_zero, ?_⟩ | refine ⟨_, atI_of (j := 1) rfl rfl, ?_⟩ | refine ⟨_, atI_of (j := 2) rfl rfl, ?_⟩ | refine ⟨_, atI_of (j := 3) rfl rfl, ?_⟩ | refine ⟨_, atI_of (j := 4) rfl rfl, ?_⟩ | refine ⟨_, atI_of (j := 5) rfl rfl, ?_⟩ | refine ⟨le_szL rfl, ?_⟩ | refine ⟨rfl, rfl, ?_⟩)); exact hN _ rfl
    · (repeat (first | refine ⟨_, atI_zero, ?_⟩ | refine ⟨_, atI_of (j := 1) rfl rfl, ?_⟩ | refine ⟨_, atI_of (j := 2) rfl rfl, ?_⟩ | refine ⟨_, atI_of (j := 3) rfl rfl, ?_⟩ | refine ⟨_, atI_of (j := 4) rfl rfl, ?_⟩ | refine ⟨_, atI_of (j := 5) rfl rfl, ?_⟩ | refine ⟨le_szL rfl, ?_⟩ | refine ⟨rfl, rfl, ?_⟩)); exact hN _ rfl
    · (repeat (first | refine ⟨_, atI_zero, ?_⟩ | refine ⟨_, atI_of (j := 1) rfl rfl, ?_⟩ | refine ⟨_, atI_of (j := 2) rfl rfl, ?_⟩ | refine ⟨_, atI_of (j := 3) rfl rfl, ?_⟩ | refine ⟨_, atI_of (j := 4) rfl rfl, ?_⟩ | refine ⟨_, atI_of (j := 5) rfl rfl, ?_⟩ | refine ⟨le_szL rfl, ?_⟩ | refine ⟨rfl, rfl, ?_⟩)); exact hN _ rfl
  rintro δ rfl
  refine seq_N (fun δ => δ = [.bag, .dt (.int many), .dt (.int here), .dt c, .dt (oN o), .no, .no, .no, .no, .no]) ?_ ?_
  · intro N hN
    rcases oc with ⟨ec, rfl⟩ | ⟨a, ec, ⟨hb, rfl⟩ | ⟨hb, a0, a1, rfl⟩⟩
    · rw [ec]; exact hN _ rfl
    · rw [ec]
      refine if_both (a := decide (0 ≤ a)) (fun e1 => ?_) fun e1 => hN _ rfl
      refine if_both (a := decide (a < (many : Int))) (fun e2 => ?_) fun e2 => hN _ rfl
      rw [e1, e2] at hb; cases hb
    · rw [ec]
      refine if_both (a := decide (0 ≤ a)) (fun e1 => ?_) fun e1 => absurd (of_decide_eq_false e1) (by omega)
      refine if_both (a := decide (a < (many : Int))) (fun e2 => ?_) fun e2 => absurd (of_decide_eq_false e2) (by omega)
      refine hN _ ?_
      show [Sl.bag, .dt (.int many), .dt (.int here), .dt c, .dt (.int a), .no, .no, .no, .no, .no] = [Sl.bag, .dt (.int many), .dt (.int here), .dt c, .dt (.int (a.toNat : Nat)), .no, .no, .no, .no, .no]
      rw [show ((a.toNat : Nat) : Int) = a by omega]
  rintro δ rfl
  refine ⟨by decide, by decide, fun d d0 d1 => ⟨rfl, rfl, ?_⟩⟩
  refine if_both (fun _ => ?_) fun _ => ?_
  · refine seq_N (fun δ => ∃ lo : Option Int, (∀ i, lo = some i → -5 ≤ i ∧ i ≤ 5) ∧ δ = [.bag, .dt (.int many), .dt (.int here), .dt c, .dt (oN o), .dt (oD lo), .no, .no, .no, .no]) ?_ ?_
    · intro N hN
      refine ⟨by decide, by decide, fun d d0 d1 => ⟨le_szL rfl, Nat.lt_of_lt_of_le (by decide : (0 : Nat) < 2) (Nat.le_of_ble_eq_true rfl), Nat.lt_of_le_of_lt (Nat.le_of_ble_eq_true rfl : _ ≤ 100) (by decide), fun i x hx => ?_⟩⟩
      have hm := List.mem_of_getElem? hx
      simp only [List.mem_cons, List.not_mem_nil, or_false] at hm
      rcases hm with rfl | rfl
      · exact hN _ ⟨none, fun i e => (by cases e), rfl⟩
      · exact hN _ ⟨some (d - 5), fun i e => (by cases e; omega), rfl⟩
    rintro δ ⟨lo, hlo, rfl⟩
    refine seq_N (fun δ => ∃ hi : Option Int, (∀ i, hi = some i → -5 ≤ i ∧ i ≤ 5) ∧ δ = [.bag, .dt (.int many), .dt (.int here), .dt c, .dt (oN o), .dt (oD lo), .dt (oD hi), .no, .no, .no]) ?_ ?_
    · intro N hN
      refine ⟨by decide, by decide, fun d d0 d1 => ⟨le_szL rfl, Nat.lt_of_lt_of_le (by decide : (0 : Nat) < 3) (Nat.le_of_ble_eq_true rfl), Nat.lt_of_le_of_lt (Nat.le_of_ble_eq_true rfl : _ ≤ 100) (by decide), fun i x hx => ?_⟩⟩
      have hm := List.mem_of_getElem? hx
      simp only [List.mem_cons, List.not_mem_nil, or_false] at hm
      rcases hm with rfl | rfl | rfl
      · exact hN _ ⟨none, fun i e => (by cases e), rfl⟩
      · exact hN _ ⟨some (d - 5), fun i e => (by cases e; omega), rfl⟩
      · exact hN _ ⟨some (-1), fun i e => (by cases e; omega), rfl⟩
    rintro δ ⟨hi, hhi, rfl⟩
    refine seq_N (fun δ => δ = [.bag, .dt (.int many), .dt (.int here), .dt c, .dt (oN o), .dt (oD lo), .dt (oD hi), .dt (.bl (isGt lo hi)), .no, .no]) ?_ ?_
    · intro N hN
      cases lo with
      | none => exact hN _ rfl
      | some l =>
        cases hi with
        | none => exact hN _ rfl
        | some h => exact hN _ rfl
    rintro δ rfl
    refine ⟨le_szL rfl, ?_⟩
    have q := q (.rg c (oD lo) (oD hi)) (rdp_rg hc (lim_b hlo) (lim_b hhi) (.inl rfl))
    rw [oe _ rfl] at q
    cases o with
    | none =>
      exact ⟨le_szL rfl, q fun e he => (by cases he)⟩
    | some k =>
      have q : (∀ e, limE here k (dO (oD lo)) (dO (oD hi)) = some e → e.ok many) → Q (.dt (.tup [Rd.d (.rg c (oD lo) (oD hi)), edO (limE here k (dO (oD lo)) (dO (oD hi)))])) := q
      rw [dO_oD, dO_oD, limE_eq] at q
      refine if_both (a := isGt lo hi) (fun e => ?_) fun e => ?_
      · rw [e] at q
        exact ⟨le_szL rfl, q fun e he => (by cases he)⟩
      · rw [e] at q
        refine ⟨le_szL rfl, le_szL rfl, q fun e' he => ?_⟩
        cases he
        exact ⟨h1, ok k rfl, hlo, hhi, fun i j ei ej => by
          have ei : lo = some i := ei
          have ej : hi = some j := ej
          subst ei; subst ej
          have := of_decide_eq_false e; omega⟩
  · dsimp only [tdNext]
    refine seq_N (fun δ => ∃ far : Int, -5 ≤ far ∧ far ≤ 5 ∧ δ = [.bag, .dt (.int many), .dt (.int here), .dt c, .dt (oN o), .no, .no, .no, .dt (.int far), .no]) ?_ ?_
    · intro N hN
      refine ⟨by decide, by decide, fun d d0 d1 => ⟨le_szL rfl, Nat.lt_of_lt_of_le (by decide : (0 : Nat) < 5) (Nat.le_of_ble_eq_true rfl), Nat.lt_of_le_of_lt (Nat.le_of_ble_eq_true rfl : _ ≤ 100) (by decide), fun i x hx => ?_⟩⟩
      have hm := List.mem_of_getElem? hx
      simp only [List.mem_cons, List.not_mem_nil, or_false] at hm
      rcases hm with rfl | rfl | rfl | rfl | rfl
      · exact hN _ ⟨0, by decide, by decide, rfl⟩
      · exact hN _ ⟨-1, by decide, by decide, rfl⟩
      · exact hN _ ⟨-1, by decide, by decide, rfl⟩
      · exact hN _ ⟨1, by decide, by decide, rfl⟩
      · exact hN _ ⟨d - 5, by omega, by omega, rfl⟩
    rintro δ ⟨far, f0, f1, rfl⟩
    refine seq_N (fun δ => ∃ row : D, (row = .tup [.str "by", .int far] ∨ row = .tup [.str "head"]) ∧ δ = [.bag, .dt (.int many), .dt (.int here), .dt c, .dt (oN o), .no, .no, .no, .dt (.int far), .dt row]) ?_ ?_
    · intro N hN
      refine ⟨le_szL rfl, le_szL rfl, le_szL rfl, le_szL rfl, le_szL rfl, Nat.lt_of_lt_of_le (by decide : (0 : Nat) < 4) (Nat.le_of_ble_eq_true rfl), Nat.lt_of_le_of_lt (Nat.le_of_ble_eq_true rfl : _ ≤ 100) (by decide), fun i x hx => ?_⟩
      have hm := List.mem_of_getElem? hx
      simp only [List.mem_cons, List.not_mem_nil, or_false] at hm
      rcases hm with rfl | rfl | rfl | rfl
      · exact hN _ ⟨_, .inl rfl, rfl⟩
      · exact hN _ ⟨_, .inl rfl, rfl⟩
      · exact hN _ ⟨_, .inl rfl, rfl⟩
      · exact hN _ ⟨_, .inr rfl, rfl⟩
    rintro δ ⟨row, hrow, rfl⟩
    refine ⟨le_szL rfl, ?_⟩
    have rp : RowP "body" row := by
      rcases hrow with rfl | rfl
      · exact rowP_by (by omega)
      · exact rowP_head
    have q := q (.nm c row) (rdp_nm hc rp)
    rw [oe _ rfl] at q
    cases o with
    | none => exact ⟨le_szL rfl, q fun e he => (by cases he)⟩
    | some k =>
      rcases hrow with rfl | rfl
      · refine ⟨le_szL rfl, lay_si (by decide +kernel), by decide +kernel, ?_⟩
        refine ⟨le_szL rfl, le_szL rfl, q fun e he => ?_⟩
        cases he
        exact ⟨h1, ok k rfl, fun i e => (by cases e; exact ⟨f0, f1⟩), fun i e => (by cases e; exact ⟨f0, f1⟩), fun i j ei ej => by cases ei; cases ej; omega⟩
      · refine ⟨le_szL rfl, by decide +kernel, by decide +kernel, ?_⟩
        exact ⟨le_szL rfl, q fun e he => (by cases he)⟩
end

end K31
set_option Elab.async false
set_option linter.all false
set_option maxRecDepth 100000
set_option maxHeartbeats 4000000
namespace K31
open PySem PySem.Spec PyProof.Rows L2 DL
/-! ### bodies, heads and feet that the law draws -/
structure BodyF (f : Fm) : Prop where
  wf : WF "body" f
  bs : Bs 4000000 20 f.d
theorem body_whole {f : Fm} (h : WholeF "body" f) : BodyF f := ⟨h.wf .body, h.bs⟩
theorem body_node {w : W3} {xs : List Fm} (h : ∀ x ∈ xs, Gf "body" 2 x) (hl : xs.length ≤ 7) : BodyF (.node (.mn w) xs) := by
  obtain ⟨hd, h1, h2, h3, h4, h5, h6, h7⟩ := gfA h
  have m1 : xs.length * Sf 2 ≤ 7 * Sf 2 := Nat.mul_le_mul_right _ hl
  have m2 : xs.length * (Cf 2 + 2) ≤ 7 * (Cf 2 + 2) := Nat.mul_le_mul_right _ hl
  have e1 : Sf 2 = 43 := rfl
  have e2 : Cf 2 = 74184 := by decide
  have hr : ∀ r ∈ (Fm.node (.mn w) xs).rds, RdP "body" r := by rw [Fm.rds]; exact h5
  refine ⟨⟨⟨by rw [Fm.wf]; exact ⟨trivial, h2⟩, by rw [Fm.hgt]; omega, by rw [Fm.sz]; omega⟩, by rw [Fm.ok]; exact ⟨trivial, h1⟩, fun r hr' => (hr r hr').ok, ?_⟩, ?_⟩
  · have e : (Fm.node (.mn w) xs).fits "body" = (!(Fm.node (.mn w) xs).hasInp && (Fm.node (.mn w) xs).rds.all fun r => r.fits "body") := rfl
    rw [e, List.all_eq_true.mpr fun r hr' => (hr r hr').fits, Fm.hasInp, h3]; rfl
  · rw [Fm.d]
    have z : Bs 100 0 (.str w.s) := by cases w <;> exact bs_str (by decide +kernel)
    exact (bs_cons (h := 8) (z.mono (Nat.le_refl _) (Nat.zero_le _)) (bs_cons (h := 8) h7 (bs_nil _))).mono (by omega) (by decide)
theorem rdsA_append : ∀ xs ys : List Fm, rdsA (xs ++ ys) = rdsA xs ++ rdsA ys
  | [], ys => by rw [rdsA]; rfl
  | x :: xs, ys => by
    show rdsA (x :: (xs ++ ys)) = _
    rw [rdsA, rdsA, rdsA_append xs ys, List.append_assoc]
theorem rdsA_one (x : Fm) : rdsA [x] = x.rds := by rw [rdsA, rdsA, List.append_nil]
section
variable {P : Program} {w : World} {K : PySem.W.Frag} {mg : Str → Option Value} {base : Heap}
def tAround : TF := fun rs Q => ∃ x : Rd, rs = [.bag, .dt x.d] ∧ RdP "body" x ∧ ∀ f : Fm, Gf "body" 1 f → f.rds = [x] → Q (.dt f.d)
abbrev C__law_around (P : Program) (w : World) (K : PySem.W.Frag) (mg : Str → Option Value) (base : Heap) : Prop := FnX P w K mg base 3 "_law_around" 2 tAround
theorem ok_around (T : Tx K mg) (D0 : Dfn K mg "_law_around" s__law_around ["_law_bag_here", "_law_read_here"]) (c__law_take : CTake P w K mg base) (c__law_one : COne P w K mg base) : C__law_around P w K mg base := by
  refine FnX.of (k := 2) D0 sc__law_around rfl (fun rs Q Q' ⟨a, b, c, q⟩ w => ⟨a, b, c, fun x h1 h2 => w _ (q x h1 h2)⟩) (fun rs Q ⟨a, b, _⟩ => by rw [b]; rfl) fun f cdv A outer s H E hr => ⟨_, (pds_cons (pds_if (pdt_eq hr.units (pd_ixV (pdv_var (pv 1)) (pdv_of (pd_c pe_int fun _ => .int _)) (fun _ _ => rfl)) (pd_c pe_str fun _ => .str _)) (pds_one (pds_set (i := 1) sc__law_around.nd rfl (Or.inl rfl) (pd_tup (pda_cons (pd_fn c__law_one (hr.mono (by omega)) (by rfl) (pda_cons (pd_var (pv 0)) (pda_cons (pd_lst (pda_cons (pd_c pe_str fun _ => .str _) (pda_cons (pd_c pe_str fun _ => .str _) (pda_cons (pd_c pe_str fun _ => .str _) (pda_cons (pd_c pe_str fun _ => .str _) pda_nil))))) pda_nil))) (pda_cons (pd_var (pv 1)) pda_nil))))) pds_nil)
      (pds_cons (pds_par2 (i := 2) (j := 3) rfl sc__law_around.nd rfl rfl (by decide) rfl rfl (pd_fn c__law_take (hr.mono (by omega)) (by rfl) (pda_cons (pd_var (pv 0)) (pda_cons (pd_c pe_int fun _ => .int _) pda_nil))) (pd_tup (pda_cons (pd_c pe_str fun _ => .str _) (pda_cons (pd_fn c__law_take (hr.mono (by omega)) (by rfl) (pda_cons (pd_var (pv 0)) (pda_cons (pd_c pe_int fun _ => .int _) pda_nil))) pda_nil))) (by rfl))
      (pds_cons (pds_if (pdt_eq hr.units (pd_var (pv 2)) (pd_c pe_int fun _ => .int _)) (pds_one (pds_ret (pd_tup (pda_cons (pd_c pe_str fun _ => .str _) (pda_cons (pd_sub (pd_fn c__law_take (hr.mono (by omega)) (by rfl) (pda_cons (pd_var (pv 0)) (pda_cons (pd_c pe_int fun _ => .int _) pda_nil))) (pd_c pe_int fun _ => .int _)) (pda_cons (pd_var (pv 1)) pda_nil)))))) pds_nil)
      (pds_cons (pds_if (pdt_eq hr.units (pd_var (pv 2)) (pd_c pe_int fun _ => .int _)) (pds_one (pds_ret (pd_if (pdt_eq hr.units (pd_fn c__law_take (hr.mono (by omega)) (by rfl) (pda_cons (pd_var (pv 0)) (pda_cons (pd_c pe_int fun _ => .int _) pda_nil))) (pd_c pe_int fun _ => .int _)) (pd_tup (pda_cons (pd_c pe_str fun _ => .str _) (pda_cons (pd_var (pv 1)) (pda_cons (pd_var (pv 3)) pda_nil)))) (pd_tup (pda_cons (pd_c pe_str fun _ => .str _) (pda_cons (pd_var (pv 3)) (pda_cons (pd_var (pv 1)) pda_nil))))))) pds_nil)
      (pds_cons (pds_if (pdt_eq hr.units (pd_var (pv 2)) (pd_c pe_int fun _ => .int _)) (pds_one (pds_ret (pd_tup (pda_cons (pd_c pe_str fun _ => .str _) (pda_cons (pd_tup (pda_cons (pd_var (pv 3)) (pda_cons (pd_var (pv 1)) pda_nil))) pda_nil))))) pds_nil)
      (pds_cons (pds_if (pdt_eq hr.units (pd_var (pv 2)) (pd_c pe_int fun _ => .int _)) (pds_one (pds_ret (pd_tup (pda_cons (pd_c pe_str fun _ => .str _) (pda_cons (pd_var (pv 3)) (pda_cons (pd_c pe_str fun _ => .str _) (pda_cons (pd_var (pv 1)) (pda_cons (pd_var (pv 3)) (pda_cons (pd_tup (pda_cons (pd_c pe_str fun _ => .str _) pda_nil)) pda_nil))))))))) pds_nil)
      (pds_cons (pds_if (pdt_eq hr.units (pd_var (pv 2)) (pd_c pe_int fun _ => .int _)) (pds_one (pds_ret (pd_tup (pda_cons (pd_c pe_str fun _ => .str _) (pda_cons (pd_var (pv 3)) (pda_cons (pd_c pe_str fun _ => .str _) (pda_cons (pd_var (pv 3)) (pda_cons (pd_var (pv 3)) (pda_cons (pd_var (pv 1)) pda_nil))))))))) pds_nil)
      (pds_one (pds_ret (pd_var (pv 1))))))))))), fun rs Q h => ?_⟩
  obtain ⟨x, rfl, hx, q⟩ := h
  dsimp only [startD, List.cons_append, List.nil_append]
  refine seq_N (fun δ => ∃ g : Fm, Gf "body" 0 g ∧ g.rds = [x] ∧ δ = [.bag, .dt g.d, .no, .no]) ?_ ?_
  · intro N hN
    cases x with
    | nm c r =>
      rw [Rd.d]
      (repeat (first | refine ⟨_, atI_zero, ?_⟩ | refine ⟨_, atI_of (j := 1) rfl rfl, ?_⟩ | refine ⟨_, atI_of (j := 2) rfl rfl, ?_⟩ | refine ⟨_, atI_of (j := 3) rfl rfl, ?_⟩ | refine ⟨_, atI_of (j := 4) rfl rfl, ?_⟩ | refine ⟨_, atI_of (j := 5) rfl rfl, ?_⟩ | refine ⟨le_szL rfl, ?_⟩ | refine ⟨rfl, rfl, ?_⟩))
      exact hN _ ⟨.nm c r, gf_nm hx, by rw [Fm.rds], by rw [Fm.d]; rfl⟩
    | rg c a b =>
      have z : ∀ w : WR, N [.bag, .dt (.tup [.str w.s, .tup [.str "rows", c, a, b]]), .no, .no] := fun w => hN _ ⟨.rg w c a b, gf_rg hx, by rw [Fm.rds], by rw [Fm.d]⟩
      rw [Rd.d]
      (repeat (first | refine ⟨_, atI_zero, ?_⟩ | refine ⟨_, atI_of (j := 1) rfl rfl, ?_⟩ | refine ⟨_, atI_of (j := 2) rfl rfl, ?_⟩ | refine ⟨_, atI_of (j := 3) rfl rfl, ?_⟩ | refine ⟨_, atI_of (j := 4) rfl rfl, ?_⟩ | refine ⟨_, atI_of (j := 5) rfl rfl, ?_⟩ | refine ⟨le_szL rfl, ?_⟩ | refine ⟨rfl, rfl, ?_⟩))
      refine ⟨Nat.lt_of_lt_of_le (by decide : (0 : Nat) < 4) (Nat.le_of_ble_eq_true rfl), Nat.lt_of_le_of_lt (Nat.le_of_ble_eq_true rfl : _ ≤ 100) (by decide), fun i y hy => ⟨le_szL rfl, ?_⟩⟩
      have hm := List.mem_of_getElem? hy
      simp only [List.mem_cons, List.not_mem_nil, or_false] at hm
      rcases hm with rfl | rfl | rfl | rfl
      · exact z .total
      · exact z .many
      · exact z .top
      · exact z .low
  rintro δ ⟨g, gg, gr, rfl⟩
  have nd : ∀ (h : Hd) (xs : List Fm), (∀ y ∈ xs, Gf "body" 0 y) → xs.length ≤ 6 → h.fit xs → h.ok → rdsA xs = [x] → Q (.dt (hdD h (xs.map Fm.d))) := fun h xs h1 h2 h3 h4 h5 => by
    have z := q (.node h xs) (gf_node h1 h2 h3 h4) (by rw [Fm.rds]; exact h5)
    rw [Fm.d, fdA_map] at z
    exact z
  refine ⟨by decide, by decide, fun k k0 k1 => ⟨by decide, by decide, fun n n0 n1 => ⟨le_szL rfl, ?_⟩⟩⟩
  have en : Fm.d (.num n) = .tup [.str "number", .int n] := by rw [Fm.d]
  have ee : Fm.d .emp = .tup [.str "empty"] := by rw [Fm.d]
  have rn : Fm.rds (.num n) = [] := by rw [Fm.rds]
  have re : Fm.rds .emp = [] := by rw [Fm.rds]
  have gn : Gf "body" 0 (.num n) := gf_num (by
    show (decide (-(1000000000000 : Int) ≤ n) && decide (n ≤ 1000000000000)) = true
    rw [decide_eq_true (by omega), decide_eq_true (by omega)]; rfl)
  refine ⟨rfl, rfl, ?_⟩
  refine if_both (fun _ => ?_) fun _ => ?_
  · refine ⟨by decide, by decide, fun d d0 d1 => ⟨le_szL rfl, ?_⟩⟩
    exact nd (.tm (d - 2)) [g] (fun y hy => by rw [List.mem_singleton.mp hy]; exact gg) (Nat.le_of_ble_eq_true rfl) ⟨g, rfl⟩ (by
      show (decide (-(1000000000000 : Int) ≤ d - 2) && decide (d - 2 ≤ 1000000000000)) = true
      rw [decide_eq_true (by omega), decide_eq_true (by omega)]; rfl) (by rw [rdsA_one]; exact gr)
  dsimp only [tdNext]
  refine ⟨rfl, rfl, ?_⟩
  have two : ∀ y ∈ [g, .num n], Gf "body" 0 y := fun y hy => by
    simp only [List.mem_cons, List.not_mem_nil, or_false] at hy
    rcases hy with rfl | rfl
    · exact gg
    · exact gn
  have owt : ∀ y ∈ [.num n, g], Gf "body" 0 y := fun y hy => by
    simp only [List.mem_cons, List.not_mem_nil, or_false] at hy
    rcases hy with rfl | rfl
    · exact gn
    · exact gg
  refine if_both (fun _ => ?_) fun _ => ?_
  · refine ⟨by decide, by decide, fun d d0 d1 => ⟨rfl, rfl, ?_⟩⟩
    refine if_both (fun _ => ⟨le_szL rfl, ?_⟩) fun _ => ⟨le_szL rfl, ?_⟩
    · have z := nd .ov [g, .num n] two (Nat.le_of_ble_eq_true rfl) ⟨_, _, rfl⟩ trivial (by simp only [rdsA, gr, rn, List.append_nil])
      simp only [List.map_cons, List.map_nil, en] at z
      exact z
    · have z := nd .ov [.num n, g] owt (Nat.le_of_ble_eq_true rfl) ⟨_, _, rfl⟩ trivial (by simp only [rdsA, gr, rn, List.append_nil, List.nil_append])
      simp only [List.map_cons, List.map_nil, en] at z
      exact z
  dsimp only [tdNext]
  refine ⟨rfl, rfl, ?_⟩
  refine if_both (fun _ => ?_) fun _ => ?_
  · refine ⟨le_szL rfl, le_szL rfl, ?_⟩
    have z := nd (.mn .most) [.num n, g] owt (Nat.le_of_ble_eq_true rfl) trivial trivial (by simp only [rdsA, gr, rn, List.append_nil, List.nil_append])
    simp only [List.map_cons, List.map_nil, en] at z
    exact z
  dsimp only [tdNext]
  refine ⟨rfl, rfl, ?_⟩
  refine if_both (fun _ => ?_) fun _ => ?_
  · refine ⟨le_szL rfl, le_szL rfl, ?_⟩
    have z := nd (.cs .lt) [.num n, g, .num n, .emp] (fun y hy => by
      simp only [List.mem_cons, List.not_mem_nil, or_false] at hy
      rcases hy with rfl | rfl | rfl | rfl
      · exact gn
      · exact gg
      · exact gn
      · exact gf_emp) (Nat.le_of_ble_eq_true rfl) ⟨_, _, _, _, rfl⟩ trivial (by simp only [rdsA, gr, rn, re, List.append_nil, List.nil_append])
    simp only [List.map_cons, List.map_nil, en, ee] at z
    exact z
  dsimp only [tdNext]
  refine ⟨rfl, rfl, ?_⟩
  refine if_both (fun _ => ?_) fun _ => ?_
  · refine ⟨le_szL rfl, ?_⟩
    have z := nd (.cs .ge) [.num n, .num n, .num n, g] (fun y hy => by
      simp only [List.mem_cons, List.not_mem_nil, or_false] at hy
      rcases hy with rfl | rfl | rfl | rfl
      · exact gn
      · exact gn
      · exact gn
      · exact gg) (Nat.le_of_ble_eq_true rfl) ⟨_, _, _, _, rfl⟩ trivial (by simp only [rdsA, gr, rn, re, List.append_nil, List.nil_append])
    simp only [List.map_cons, List.map_nil, en, ee] at z
    exact z
  exact q g (gg.mono (by decide)) gr
end

end K31
set_option Elab.async false
set_option linter.all false
set_option maxRecDepth 100000
set_option maxHeartbeats 4000000
namespace K31
open PySem PySem.Spec PyProof.Rows L2 DL
section
variable {P : Program} {w : World} {K : PySem.W.Frag} {mg : Str → Option Value} {base : Heap}
def tLBody : TF := fun rs Q => ∃ many here : Nat, rs = [.bag, .dt (.int many), .dt (.int here), .dt (.int 6)] ∧ here < many ∧ many ≤ 8 ∧ ∀ f : Fm, BodyF f → (f.rds.filterMap (edgeOf many here)).length ≤ 6 → (∀ e ∈ f.rds.filterMap (edgeOf many here), e.ok many) → Q (.dt (.tup [f.d, .lst ((f.rds.filterMap (edgeOf many here)).map Ed.d)]))
abbrev C__law_body (P : Program) (w : World) (K : PySem.W.Frag) (mg : Str → Option Value) (base : Heap) : Prop := FnX P w K mg base 4 "_law_body" 4 tLBody
theorem gf_list {p : Str} {n : Nat} {xs : List Fm} (h : ∀ x ∈ xs, Gf p n x) (m : Nat) : ∀ x ∈ xs.take m, Gf p n x := fun x hx => h x (List.mem_of_mem_take hx)
theorem ok_body (T : Tx K mg) (D0 : Dfn K mg "_law_body" s__law_body ["_law_bag_here", "_law_many", "_law_here", "_law_most"]) (c__law_take : CTake P w K mg base) (c__law_one : COne P w K mg base) (c__law_read : C__law_read P w K mg base := by assumption) (c__law_around : C__law_around P w K mg base := by assumption) : C__law_body P w K mg base := by
  refine FnX.of (k := 3) D0 sc__law_body rfl (fun rs Q Q' ⟨a, b, c, d, e, q⟩ w => ⟨a, b, c, d, e, fun f h1 h2 h3 => w _ (q f h1 h2 h3)⟩) (fun rs Q ⟨a, b, c, _⟩ => by rw [c]; rfl) fun f cdv A outer s H E hr => ⟨_, (pds_cons (pds_if (pdt_eq hr.units (pd_fn c__law_take (hr.mono (by omega)) (by rfl) (pda_cons (pd_var (pv 0)) (pda_cons (pd_c pe_int fun _ => .int _) pda_nil))) (pd_c pe_int fun _ => .int _)) (pds_one (pds_ret (pd_tup (pda_cons (pd_tup (pda_cons (pd_c pe_str fun _ => .str _) pda_nil)) (pda_cons (pd_lst pda_nil) pda_nil))))) pds_nil)
      (pds_cons (pds_parL (i := 4) (j := 5) rfl sc__law_body.nd rfl rfl (by decide) rfl rfl (pd_lst pda_nil) (by rfl))
      (pds_cons (pds_for PassesOwn.never rfl (pdi_rng1 (by rfl) T.b_range (pda_cons (pd_fn c__law_take (hr.mono (by omega)) (by rfl) (pda_cons (pd_var (pv 0)) (pda_cons (pd_addV (pdv_var (pv 3)) (pdv_of (pd_c pe_int fun _ => .int _))) pda_nil))) pda_nil)) (pdg_name (pg_name (i := 6) sc__law_body.nd rfl (Or.inl rfl))) (pds_cons (pds_unpack (pd_fn c__law_read (hr.mono (by omega)) (by rfl) (pda_cons (pd_var (pv 0)) (pda_cons (pd_var (pv 1)) (pda_cons (pd_var (pv 2)) pda_nil)))) (pdg_names (is := [7, 8]) (pg_tup rfl (pgs_cons (pg_name (i := 7) sc__law_body.nd rfl (Or.inl rfl)) (pgs_cons (pg_name (i := 8) sc__law_body.nd rfl (Or.inl rfl)) pgs_nil))) rfl))
      (pds_cons (pds_app (pv 4) (pd_fn c__law_around (hr.mono (by omega)) (by rfl) (pda_cons (pd_var (pv 0)) (pda_cons (pd_var (pv 7)) pda_nil))))
      (pds_one (pds_set (i := 5) sc__law_body.nd rfl (Or.inl rfl) (pd_addV (pdv_var (pv 5)) (pdv_of (pd_lc rfl sc__law_body.nd (pdi_over (pd_lst (pda_cons (pd_var (pv 8)) pda_nil))) (blkOk_by (own := [("_law_one_here", 9)]) (N := ["_law_bag_here", "_law_many", "_law_here", "_law_most", "_law_terms", "_law_edges", "_law_k", "_law_read_here", "_law_edge", "_law_one_here", "_law_cut"]) (sc := defScope s__law_body) (by decide +kernel)) rfl (fun _ _ _ _ _ => (pdg_name (pg_name (i := 9) sc__law_body.nd rfl (Or.inl rfl)))) (fun _ _ _ _ _ => (pdts_one (pdt_notN (pd_var (pv 9)) (pd_c pe_non fun _ => .non)))) (fun _ _ _ _ _ => (pd_var (pv 9)))))))))))
      (pds_cons (pds_if (PDW.t (pdw_and (pdt_eq hr.units (pd_lenV (by rfl) T.b_len (pdv_var (pv 4))) (pd_c pe_int fun _ => .int _)) (pdw_and1 (pdt_eq hr.units (pd_fn c__law_take (hr.mono (by omega)) (by rfl) (pda_cons (pd_var (pv 0)) (pda_cons (pd_c pe_int fun _ => .int _) pda_nil))) (pd_c pe_int fun _ => .int _))))) (pds_one (pds_ret (pd_tup (pda_cons (pd_ixV (pdv_var (pv 4)) (pdv_of (pd_c pe_int fun _ => .int _)) (fun _ _ => rfl)) (pda_cons (pd_var (pv 5)) pda_nil))))) pds_nil)
      (pds_cons (pds_set (i := 10) sc__law_body.nd rfl (Or.inl rfl) (pd_fn c__law_take (hr.mono (by omega)) (by rfl) (pda_cons (pd_var (pv 0)) (pda_cons (pd_add (pd_lenV (by rfl) T.b_len (pdv_var (pv 4))) (pd_c pe_int fun _ => .int _)) pda_nil))))
      (pds_cons (pds_if (pdt_eq hr.units (pd_fn c__law_take (hr.mono (by omega)) (by rfl) (pda_cons (pd_var (pv 0)) (pda_cons (pd_c pe_int fun _ => .int _) pda_nil))) (pd_c pe_int fun _ => .int _)) (pds_one (pds_ret (pd_tup (pda_cons (pd_tup (pda_cons (pd_fn c__law_one (hr.mono (by omega)) (by rfl) (pda_cons (pd_var (pv 0)) (pda_cons (pd_lst (pda_cons (pd_c pe_str fun _ => .str _) (pda_cons (pd_c pe_str fun _ => .str _) (pda_cons (pd_c pe_str fun _ => .str _) pda_nil)))) pda_nil))) (pda_cons (pd_add (pd_tuple (by rfl) T.b_tuple (pda_cons (pd_sliceV (pdv_var (pv 4)) pdo_none (pdo_some (pd_var (pv 10)))) pda_nil)) (pd_tup (pda_cons (pd_tup (pda_cons (pd_c pe_str fun _ => .str _) (pda_cons (pd_tuple (by rfl) T.b_tuple (pda_cons (pd_sliceV (pdv_var (pv 4)) (pdo_some (pd_var (pv 10))) pdo_none) pda_nil)) pda_nil))) pda_nil))) pda_nil))) (pda_cons (pd_var (pv 5)) pda_nil))))) pds_nil)
      (pds_one (pds_ret (pd_tup (pda_cons (pd_tup (pda_cons (pd_c pe_str fun _ => .str _) (pda_cons (pd_tupleV (by rfl) T.b_tuple (pdv_var (pv 4))) pda_nil))) (pda_cons (pd_var (pv 5)) pda_nil))))))))))), fun rs Q h => ?_⟩
  obtain ⟨many, here, rfl, h1, h2, q⟩ := h
  have z1 := sizeLine_eq
  dsimp only [startD, List.cons_append, List.nil_append]
  refine ⟨by decide, by decide, fun d d0 d1 => ⟨rfl, rfl, ?_⟩⟩
  refine if_both (fun _ => ?_) fun _ => ?_
  · have z := q .inp (body_whole (.inl ⟨rfl, by decide⟩)) (by rw [Fm.rds]; exact Nat.zero_le _) (fun e he => by rw [Fm.rds] at he; cases he)
    rw [Fm.rds, Fm.d] at z
    exact ⟨le_szL rfl, Nat.zero_le _, le_szL rfl, z⟩
  dsimp only [tdNext]
  refine ⟨Nat.zero_le _, ?_⟩
  refine ⟨by decide, by decide, fun n n0 n1 => ⟨by omega, by omega, ?_⟩⟩
  refine forD_L (fun ds δ => ∃ (ts : List Fm) (s6 s7 s8 : Sl), (∀ x ∈ ts, Gf "body" 1 x) ∧ ds.length + ts.length ≤ 6 ∧ ((rdsA ts).filterMap (edgeOf many here)).length ≤ ts.length ∧ (∀ e ∈ (rdsA ts).filterMap (edgeOf many here), e.ok many) ∧ δ = [.bag, .dt (.int many), .dt (.int here), .dt (.int 6), .ol (ts.map Fm.d), .ol (((rdsA ts).filterMap (edgeOf many here)).map Ed.d), s6, s7, s8, .no, .no]) ?_ ?_ _ _ ⟨[], .no, .no, .no, (fun x hx => by cases hx), by rw [zs_len, List.length_nil]; omega, Nat.le_refl _, (fun e he => by cases he), rfl⟩
  · rintro d ds δ N ⟨ts, s6, s7, s8, g1, g2, g3, g4, rfl⟩ hN
    rw [List.length_cons] at g2
    refine ⟨many, here, rfl, h1, h2, fun x hx he => ⟨rfl, ?_⟩⟩
    refine ⟨x, rfl, hx, fun g gg gr => ⟨by rw [List.length_map]; omega, ?_⟩⟩
    have er : rdsA (ts ++ [g]) = rdsA ts ++ [x] := by rw [rdsA_append, rdsA_one, gr]
    have ef : (rdsA (ts ++ [g])).filterMap (edgeOf many here) = (rdsA ts).filterMap (edgeOf many here) ++ (edgeOf many here x).toList := by
      rw [er, List.filterMap_append]
      congr 1
    have fin : ∀ (o : Option Ed) (s8 : Sl), edgeOf many here x = o → ∀ s6 s7 : Sl, N [.bag, .dt (.int many), .dt (.int here), .dt (.int 6), .ol (ts.map Fm.d ++ [g.d]), .ol (((rdsA ts).filterMap (edgeOf many here)).map Ed.d ++ o.toList.map Ed.d), s6, s7, s8, .no, .no] := by
      intro o s8 eo s6 s7
      subst eo
      refine hN _ ⟨ts ++ [g], s6, s7, s8, fun y hy => ?_, by rw [List.length_append, List.length_singleton]; omega, ?_, fun e h => ?_, ?_⟩
      · rcases List.mem_append.mp hy with hy | hy
        · exact g1 y hy
        · rw [List.mem_singleton.mp hy]; exact gg
      · rw [ef, List.length_append, List.length_append, List.length_singleton]
        have : (edgeOf many here x).toList.length ≤ 1 := by cases edgeOf many here x <;> exact Nat.le_of_ble_eq_true rfl
        omega
      · rw [ef] at h
        rcases List.mem_append.mp h with h | h
        · exact g4 e h
        · exact he e (by simpa using h)
      · rw [ef, List.map_append, List.map_append]; rfl
    clear ef er
    generalize edgeOf many here x = o at fin he
    cases o with
    | none => 
      refine ⟨le_szL rfl, le_szL rfl, rfl, ?_⟩
      refine if_no rfl ?_
      refine ⟨by rw [List.length_map, List.length_nil]; omega, ?_⟩
      exact fin none _ rfl _ _
    | some e =>
      refine ⟨le_szL rfl, le_szL rfl, rfl, ?_⟩
      refine if_yes rfl ⟨rfl, ?_⟩
      refine ⟨by rw [List.length_map]; show _ + 1 ≤ sizeLine; omega, ?_⟩
      exact fin (some e) _ rfl _ _
  · rintro δ ⟨ts, s6, s7, s8, g1, g2, g3, g4, rfl⟩
    dsimp only
    have tl : ts.length ≤ 6 := by
      have : ([] : List DL.D).length = 0 := rfl
      omega
    have el : ((rdsA ts).filterMap (edgeOf many here)).length ≤ 6 := by omega
    have len : (ts.map Fm.d).length = ts.length := List.length_map _
    have q3 : ∀ f : Fm, BodyF f → f.rds = rdsA ts → Q (.dt (.tup [f.d, .lst (((rdsA ts).filterMap (edgeOf many here)).map Ed.d)])) := fun f hf hr => by
      have z := q f hf
      rw [hr] at z
      exact z el g4
    have sumB : ∀ w : W3, Q (.dt (.tup [.tup [.str w.s, .tup (ts.map Fm.d)], .lst (((rdsA ts).filterMap (edgeOf many here)).map Ed.d)])) := fun w => by
      have z := q3 (.node (.mn w) ts) (body_node (fun x hx => (g1 x hx).mono (by decide)) (by omega)) (by rw [Fm.rds])
      rw [Fm.d, fdA_map] at z
      exact z
    refine seq_N (fun δ => δ = [.bag, .dt (.int many), .dt (.int here), .dt (.int 6), .ol (ts.map Fm.d), .ol (((rdsA ts).filterMap (edgeOf many here)).map Ed.d), s6, s7, s8, .no, .no]) ?_ ?_
    · intro N hN
      refine ⟨rfl, rfl, ?_⟩
      refine if_both (fun e => ?_) fun _ => hN _ rfl
      have e1 : ts.length = 1 := by
        have e : ((((ts.map Fm.d).length : Nat) : Int) == 1) = true := e
        have := eq_of_beq e
        rw [len] at this; omega
      refine ⟨by decide, by decide, fun d d0 d1 => ⟨rfl, rfl, ?_⟩⟩
      refine if_both (fun _ => ?_) fun _ => hN _ rfl
      match ts, e1, g1, q3 with
      | [t], _, g1, q3 =>
        refine ⟨_, atI_of (j := 0) rfl rfl, le_szL rfl, ?_⟩
        exact q3 t (body_whole (.inr ((g1 t List.mem_cons_self).mono (by decide)))) (rdsA_one t).symm
    rintro δ rfl
    refine ⟨by rw [len]; omega, by rw [len]; omega, fun c c0 c1 => ?_⟩
    refine ⟨by decide, by decide, fun d d0 d1 => ⟨rfl, rfl, ?_⟩⟩
    refine if_both (fun _ => ?_) fun _ => ?_
    · obtain ⟨j, rfl⟩ := Int.eq_ofNat_of_zero_le c0
      have hj : j ≤ ts.length := by rw [len] at c1; omega
      have eC : ∀ w : W3, Q (.dt (.tup [.tup [.str w.s, .tup ((ts.take j).map Fm.d ++ [.tup [.str "sum", .tup ((ts.drop j).map Fm.d)]])], .lst (((rdsA ts).filterMap (edgeOf many here)).map Ed.d)])) := fun w => by
        have gt : ∀ x ∈ ts.drop j, Gf "body" 1 x := fun x hx => g1 x (List.mem_of_mem_drop hx)
        have gs : Gf "body" 2 (.node (.mn .sum) (ts.drop j)) := gf_node gt (by rw [List.length_drop]; omega) trivial trivial
        have z := q3 (.node (.mn w) (ts.take j ++ [.node (.mn .sum) (ts.drop j)])) (body_node (fun x hx => by
          rcases List.mem_append.mp hx with hx | hx
          · exact (g1 x (List.mem_of_mem_take hx)).mono (by decide)
          · rw [List.mem_singleton.mp hx]; exact gs) (by rw [List.length_append, List.length_take, List.length_singleton]; omega)) (by
          rw [Fm.rds, rdsA_append, rdsA_one, Fm.rds, ← rdsA_append, List.take_append_drop])
        rw [Fm.d, fdA_map, List.map_append] at z
        have e2 : [Fm.node (.mn .sum) (ts.drop j)].map Fm.d = [.tup [.str "sum", .tup ((ts.drop j).map Fm.d)]] := by
          rw [List.map_cons, List.map_nil, Fm.d, fdA_map]; rfl
        rw [e2] at z
        exact z
      refine ⟨le_szL rfl, Nat.lt_of_lt_of_le (by decide : (0 : Nat) < 3) (Nat.le_of_ble_eq_true rfl), Nat.lt_of_le_of_lt (Nat.le_of_ble_eq_true rfl : _ ≤ 100) (by decide), fun i x hx => ?_⟩
      have hm := List.mem_of_getElem? hx
      have cA : cutL (ts.map Fm.d) none (some (j : Int)) = (ts.take j).map Fm.d := by
        unfold cutL
        rw [HT.sIx_none, HT.sIx_nat, len, Nat.min_eq_left hj, List.drop_zero, Nat.sub_zero, List.map_take]
      have cB : cutL (ts.map Fm.d) (some (j : Int)) none = (ts.drop j).map Fm.d := by
        unfold cutL
        rw [HT.sIx_none, HT.sIx_nat, len, Nat.min_eq_left hj, ← List.map_drop, ← List.map_take, List.take_of_length_le (by rw [List.length_drop]; omega)]
      have fin : ∀ w : W3, tdCons (td2 fAdd (tdCB (f1 fun d δ Q => match seqOf d with
            | some xs => Q (Sl.dt (D.tup xs)) δ
            | none => False) (tdCons (tdSlV (vwVar 4) tdNoP (tdPart (tdVar 10))) tdNil)) (tdTup (tdCons (tdTup (tdCons (tdC (D.str "sum")) (tdCons (tdCB (f1 fun d δ Q => match seqOf d with
            | some xs => Q (Sl.dt (D.tup xs)) δ
            | none => False) (tdCons (tdSlV (vwVar 4) (tdPart (tdVar 10)) tdNoP) tdNil)) tdNil))) tdNil))) tdNil [.bag, .dt (.int many), .dt (.int here), .dt (.int 6), .ol (ts.map Fm.d), .ol (((rdsA ts).filterMap (edgeOf many here)).map Ed.d), s6, s7, s8, .no, .dt (.int (j : Nat))] fun rs δ2 => (match datas (.dt (.str w.s) :: rs) with
            | some ds => ds.length ≤ sizeLine ∧ tdCons (tdVar 5) tdNil δ2 fun rs δ' => match datas (.dt (.tup ds) :: rs) with
                | some ds => ds.length ≤ sizeLine ∧ Q (.dt (.tup ds))
                | none => False
            | none => False) := by
        intro w
        refine ⟨le_szL rfl, le_szL rfl, ?_, le_szL rfl, le_szL rfl, ?_⟩
        · rw [cA, cB, List.length_map]
          show (ts.take j).length + 1 ≤ sizeLine
          rw [List.length_take]; omega
        · have z := eC w
          rw [← cA, ← cB] at z
          exact z
      simp only [List.mem_cons, List.not_mem_nil, or_false] at hm
      rcases hm with rfl | rfl | rfl
      · exact fin .sum
      · exact fin .most
      · exact fin .least
    · exact ⟨le_szL rfl, le_szL rfl, sumB .sum⟩
end

end K31
set_option Elab.async false
set_option linter.all false
set_option maxRecDepth 100000
set_option maxHeartbeats 4000000
namespace K31
open PySem PySem.Spec PyProof.Rows L2 DL
section
variable {P : Program} {w : World} {K : PySem.W.Frag} {mg : Str → Option Value} {base : Heap}
theorem whole_nm {p : Str} {c r : D} (h : RdP p (.nm c r)) : WholeF p (.nm c r) := .inr ((gf_nm h).mono (by decide))
theorem d_nm (c r : D) : Fm.d (.nm c r) = .tup [.str "name", c, r] := by rw [Fm.d]
def tLHead : TF := fun rs Q => ∃ many : D, rs = [.bag, .dt many] ∧ ∀ f : Fm, WholeF "head" f → Q (.dt f.d)
abbrev C__law_head (P : Program) (w : World) (K : PySem.W.Frag) (mg : Str → Option Value) (base : Heap) : Prop := FnX P w K mg base 3 "_law_head" 2 tLHead
theorem ok_lhead (T : Tx K mg) (D0 : Dfn K mg "_law_head" s__law_head ["_law_bag_here", "_law_many"]) (c__law_take : CTake P w K mg base) (c__law_one : COne P w K mg base) : C__law_head P w K mg base := by
  refine FnX.of (k := 2) D0 sc__law_head rfl (fun rs Q Q' ⟨a, b, q⟩ w => ⟨a, b, fun f h => w _ (q f h)⟩) (fun rs Q ⟨a, b, _⟩ => by rw [b]; rfl) fun f cdv A outer s H E hr => ⟨_, (pds_cons (pds_set (i := 2) sc__law_head.nd rfl (Or.inl rfl) (pd_tup (pda_cons (pd_c pe_str fun _ => .str _) (pda_cons (pd_sub (pd_fn c__law_take (hr.mono (by omega)) (by rfl) (pda_cons (pd_var (pv 0)) (pda_cons (pd_c pe_int fun _ => .int _) pda_nil))) (pd_c pe_int fun _ => .int _)) pda_nil))))
      (pds_cons (pds_set (i := 3) sc__law_head.nd rfl (Or.inl rfl) (pd_lst (pda_cons (pd_tup (pda_cons (pd_c pe_str fun _ => .str _) pda_nil)) (pda_cons (pd_tup (pda_cons (pd_c pe_str fun _ => .str _) pda_nil)) (pda_cons (pd_tup (pda_cons (pd_c pe_str fun _ => .str _) (pda_cons (pd_c pe_int fun _ => .int _) pda_nil))) (pda_cons (pd_tup (pda_cons (pd_c pe_str fun _ => .str _) (pda_cons (pd_tup (pda_cons (pd_c pe_str fun _ => .str _) (pda_cons (pd_fn c__law_take (hr.mono (by omega)) (by rfl) (pda_cons (pd_var (pv 0)) (pda_cons (pd_c pe_int fun _ => .int _) pda_nil))) pda_nil))) (pda_cons (pd_tup (pda_cons (pd_c pe_str fun _ => .str _) pda_nil)) pda_nil)))) pda_nil))))))
      (pds_one (pds_ret (pd_fn c__law_one (hr.mono (by omega)) (by rfl) (pda_cons (pd_var (pv 0)) (pda_cons (pd_addV (pdv_var (pv 3)) (pdv_of (pd_lst (pda_cons (pd_tup (pda_cons (pd_c pe_str fun _ => .str _) (pda_cons (pd_tup (pda_cons (pd_tup (pda_cons (pd_c pe_str fun _ => .str _) (pda_cons (pd_var (pv 2)) (pda_cons (pd_tup (pda_cons (pd_c pe_str fun _ => .str _) pda_nil)) pda_nil)))) pda_nil)) pda_nil))) pda_nil)))) pda_nil))))))), fun rs Q h => ?_⟩
  obtain ⟨many, rfl, q⟩ := h
  dsimp only [startD, List.cons_append, List.nil_append]
  refine ⟨by decide, by decide, fun d d0 d1 => ⟨le_szL rfl, ?_⟩⟩
  refine ⟨le_szL rfl, le_szL rfl, le_szL rfl, by decide, by decide, fun e e0 e1 => ⟨le_szL rfl, le_szL rfl, le_szL rfl, le_szL rfl, ?_⟩⟩
  refine ⟨le_szL rfl, le_szL rfl, le_szL rfl, le_szL rfl, le_szL rfl, le_szL rfl, ?_⟩
  refine ⟨Nat.lt_of_lt_of_le (by decide : (0 : Nat) < 5) (Nat.le_of_ble_eq_true rfl), Nat.lt_of_le_of_lt (Nat.le_of_ble_eq_true rfl : _ ≤ 100) (by decide), fun i x hx => ?_⟩
  have hm := List.mem_of_getElem? hx
  have rp : RowP "head" (.tup [.str "head"]) := rowP_head
  have hb : RdP "head" (.nm (.tup [.str "by", .int (d - 2)]) (.tup [.str "head"])) := rdp_nm (partP_by (by omega)) rp
  have ha : RdP "head" (.nm (.tup [.str "at", .int e]) (.tup [.str "head"])) := rdp_nm (partP_at e0 (by omega)) rp
  have z1 := q .inp (.inl ⟨rfl, by decide⟩)
  have z2 := q .emp (.inr (gf_emp.mono (by decide)))
  have z3 := q (.num 3) (.inr ((gf_num rfl).mono (by decide)))
  have z4 := q _ (whole_nm ha)
  have z5 := q (.node (.mn .sum) [.nm (.tup [.str "by", .int (d - 2)]) (.tup [.str "head"])]) (.inr ((gf_node (g := .mn .sum) (xs := [.nm (.tup [.str "by", .int (d - 2)]) (.tup [.str "head"])]) (n := 0) (fun y hy => by rw [List.mem_singleton.mp hy]; exact gf_nm hb) (Nat.le_of_ble_eq_true rfl) trivial trivial).mono (by decide)))
  rw [Fm.d] at z1
  rw [Fm.d] at z2
  rw [Fm.d] at z3
  rw [Fm.d] at z4
  rw [Fm.d, fdA_map, List.map_cons, List.map_nil, d_nm] at z5
  simp only [List.mem_cons, List.mem_append, List.not_mem_nil, or_false] at hm
  rcases hm with (rfl | rfl | rfl | rfl) | rfl
  · exact z1
  · exact z2
  · exact z3
  · exact z4
  · exact z5
def tLFoot : TF := fun rs Q => ∃ many : D, rs = [.bag, .dt many] ∧ ∀ f : Fm, WholeF "foot" f → Q (.dt f.d)
abbrev C__law_foot (P : Program) (w : World) (K : PySem.W.Frag) (mg : Str → Option Value) (base : Heap) : Prop := FnX P w K mg base 3 "_law_foot" 2 tLFoot
theorem ok_lfoot (T : Tx K mg) (D0 : Dfn K mg "_law_foot" s__law_foot ["_law_bag_here", "_law_many"]) (c__law_take : CTake P w K mg base) (c__law_one : COne P w K mg base) : C__law_foot P w K mg base := by
  refine FnX.of (k := 2) D0 sc__law_foot rfl (fun rs Q Q' ⟨a, b, q⟩ w => ⟨a, b, fun f h => w _ (q f h)⟩) (fun rs Q ⟨a, b, _⟩ => by rw [b]; rfl) fun f cdv A outer s H E hr => ⟨_, (pds_cons (pds_set (i := 2) sc__law_foot.nd rfl (Or.inl rfl) (pd_fn c__law_one (hr.mono (by omega)) (by rfl) (pda_cons (pd_var (pv 0)) (pda_cons (pd_lst (pda_cons (pd_tup (pda_cons (pd_c pe_str fun _ => .str _) (pda_cons (pd_sub (pd_fn c__law_take (hr.mono (by omega)) (by rfl) (pda_cons (pd_var (pv 0)) (pda_cons (pd_c pe_int fun _ => .int _) pda_nil))) (pd_c pe_int fun _ => .int _)) pda_nil))) (pda_cons (pd_tup (pda_cons (pd_c pe_str fun _ => .str _) (pda_cons (pd_fn c__law_take (hr.mono (by omega)) (by rfl) (pda_cons (pd_var (pv 0)) (pda_cons (pd_c pe_int fun _ => .int _) pda_nil))) pda_nil))) pda_nil))) pda_nil))))
      (pds_cons (pds_set (i := 3) sc__law_foot.nd rfl (Or.inl rfl) (pd_lst (pda_cons (pd_tup (pda_cons (pd_c pe_str fun _ => .str _) pda_nil)) (pda_cons (pd_tup (pda_cons (pd_c pe_str fun _ => .str _) (pda_cons (pd_tup (pda_cons (pd_c pe_str fun _ => .str _) (pda_cons (pd_var (pv 2)) (pda_cons (pd_c pe_non fun _ => .non) (pda_cons (pd_c pe_non fun _ => .non) pda_nil))))) pda_nil))) (pda_cons (pd_tup (pda_cons (pd_c pe_str fun _ => .str _) (pda_cons (pd_var (pv 2)) (pda_cons (pd_tup (pda_cons (pd_c pe_str fun _ => .str _) (pda_cons (pd_fn c__law_take (hr.mono (by omega)) (by rfl) (pda_cons (pd_var (pv 0)) (pda_cons (pd_c pe_int fun _ => .int _) pda_nil))) pda_nil))) pda_nil)))) pda_nil)))))
      (pds_one (pds_ret (pd_fn c__law_one (hr.mono (by omega)) (by rfl) (pda_cons (pd_var (pv 0)) (pda_cons (pd_addV (pdv_var (pv 3)) (pdv_of (pd_lst (pda_cons (pd_tup (pda_cons (pd_c pe_str fun _ => .str _) (pda_cons (pd_var (pv 2)) (pda_cons (pd_tup (pda_cons (pd_c pe_str fun _ => .str _) pda_nil)) pda_nil)))) (pda_cons (pd_tup (pda_cons (pd_c pe_str fun _ => .str _) (pda_cons (pd_var (pv 2)) (pda_cons (pd_tup (pda_cons (pd_c pe_str fun _ => .str _) pda_nil)) pda_nil)))) pda_nil))))) pda_nil))))))), fun rs Q h => ?_⟩
  obtain ⟨many, rfl, q⟩ := h
  dsimp only [startD, List.cons_append, List.nil_append]
  refine seq_N (fun δ => ∃ c, PartP c ∧ δ = [.bag, .dt many, .dt c, .no]) ?_ ?_
  · intro N hN
    refine ⟨by decide, by decide, fun d d0 d1 => ⟨le_szL rfl, by decide, by decide, fun e e0 e1 => ⟨le_szL rfl, le_szL rfl, Nat.lt_of_lt_of_le (by decide : (0 : Nat) < 2) (Nat.le_of_ble_eq_true rfl), Nat.lt_of_le_of_lt (Nat.le_of_ble_eq_true rfl : _ ≤ 100) (by decide), fun i x hx => hN _ ⟨x, ?_, rfl⟩⟩⟩⟩
    have hm := List.mem_of_getElem? hx
    simp only [List.mem_cons, List.not_mem_nil, or_false] at hm
    rcases hm with rfl | rfl
    · exact partP_by (by omega)
    · exact partP_at e0 (by omega)
  rintro δ ⟨c, hc, rfl⟩
  refine ⟨le_szL rfl, le_szL rfl, le_szL rfl, by decide, by decide, fun e e0 e1 => ⟨le_szL rfl, le_szL rfl, le_szL rfl, ?_⟩⟩
  refine ⟨le_szL rfl, le_szL rfl, le_szL rfl, le_szL rfl, le_szL rfl, le_szL rfl, ?_⟩
  refine ⟨Nat.lt_of_lt_of_le (by decide : (0 : Nat) < 5) (Nat.le_of_ble_eq_true rfl), Nat.lt_of_le_of_lt (Nat.le_of_ble_eq_true rfl : _ ≤ 100) (by decide), fun i x hx => ?_⟩
  have hm := List.mem_of_getElem? hx
  have z2 := q .emp (.inr (gf_emp.mono (by decide)))
  have z3 := q (.rg .total c .non .non) (.inr ((gf_rg (rdp_rg hc (.inl rfl) (.inl rfl) (.inr ⟨rfl, rfl, rfl⟩))).mono (by decide)))
  have z4 := q _ (whole_nm (rdp_nm hc (rowP_last e0 (by omega))))
  have z5 := q _ (whole_nm (rdp_nm hc rowP_foot))
  have z6 := q _ (whole_nm (rdp_nm hc (rowP_head (p := "foot"))))
  rw [Fm.d] at z2
  rw [Fm.d] at z3
  rw [Fm.d] at z4
  rw [Fm.d] at z5
  rw [Fm.d] at z6
  simp only [List.mem_cons, List.mem_append, List.not_mem_nil, or_false] at hm
  rcases hm with (rfl | rfl | rfl) | rfl | rfl
  · exact z2
  · exact z3
  · exact z4
  · exact z5
  · exact z6
end

end K31
set_option Elab.async false
set_option linter.all false
set_option maxRecDepth 100000
set_option maxHeartbeats 4000000
namespace K31
open PySem PySem.Spec PyProof.Rows L2 DL
theorem comp_mapG {α : Type} {g : TDG} {te : TD} {δw : List Sl} (mg : MonoG g) (e f : α → D) : ∀ (xs : List α) (acc : List D) (Q : List D → Prop),
    (∀ x ∈ xs, ∀ (C : D → Prop), C (f x) → g (e x) δw fun δ1 => te δ1 fun r δ3 => δ3 = δ1 ∧ match fz r with | some y => C y | none => False) → Q (acc ++ xs.map f) → compD g tdYes te δw (xs.map e) acc Q
  | [], acc, Q, _, h => by rw [List.map_nil, List.append_nil] at h; exact h
  | x :: xs, acc, Q, hte, h => mg _ _ _ _ (hte x List.mem_cons_self (fun y => compD g tdYes te δw (xs.map e) (acc ++ [y]) Q) (comp_mapG mg e f xs (acc ++ [f x]) Q (fun y hy => hte y (List.mem_cons_of_mem _ hy)) (by rw [List.append_assoc]; exact h))) fun δ1 q => ⟨rfl, by rw [if_pos rfl]; exact q⟩
theorem mono_gNs {is : List Nat} : MonoG (gdNames is) := fun d δ Q Q' q w => by
  unfold gdNames at q ⊢
  split at q
  · exact ⟨q.1, w _ q.2⟩
  · exact q
/-! ### the sheets that the law draws -/
structure ColF (c : Col) : Prop where
  fine : c.Fine
  bs : Bs 1000000000000 30 c.d
theorem col_f {h b f : Fm} (hh : WholeF "head" h) (hb : BodyF b) (hf : WholeF "foot" f) : ColF ⟨h, b, f⟩ :=
  ⟨⟨hh.wf .head, hb.wf, hf.wf .foot⟩, (bs_cons (h := 28) (hh.bs.mono (Nat.le_refl _) (by decide)) (bs_cons (h := 28) (hb.bs.mono (Nat.le_refl _) (by decide)) (bs_cons (h := 28) (hf.bs.mono (Nat.le_refl _) (by decide)) (bs_nil 28)))).mono (by decide) (by decide)⟩
theorem colf_lay {cs : List Col} (g : ∀ c ∈ cs, ColF c) : SeqAt.shaped (py (.lst (cs.map Col.d))) = true := by
  refine lay_lst (c := 1000000000000) (h := 30) (fun d hd => ?_) (by decide)
  obtain ⟨c, hc, rfl⟩ := List.mem_map.mp hd
  exact (g c hc).bs
theorem wbE_snoc (many : Nat) (c : Col) : ∀ (cs : List Col) (k : Nat), wbE many k (cs ++ [c]) = wbE many k cs ++ c.b.rds.filterMap (edgeOf many (k + cs.length))
  | [], k => by
    show c.b.rds.filterMap (edgeOf many k) ++ [] = [] ++ c.b.rds.filterMap (edgeOf many (k + 0))
    rw [List.append_nil, List.nil_append, Nat.add_zero]
  | d :: cs, k => by
    show d.b.rds.filterMap (edgeOf many k) ++ wbE many (k + 1) (cs ++ [c]) = d.b.rds.filterMap (edgeOf many k) ++ wbE many (k + 1) cs ++ c.b.rds.filterMap (edgeOf many (k + (cs.length + 1)))
    rw [wbE_snoc many c cs (k + 1), List.append_assoc, show k + 1 + cs.length = k + (cs.length + 1) by omega]
def bareC (c : Col) : Col := ⟨.emp, c.b, .emp⟩
theorem wbE_bare (many : Nat) : ∀ (cs : List Col) (k : Nat), wbE many k (cs.map bareC) = wbE many k cs
  | [], _ => rfl
  | c :: cs, k => by
    show c.b.rds.filterMap (edgeOf many k) ++ wbE many (k + 1) (cs.map bareC) = c.b.rds.filterMap (edgeOf many k) ++ wbE many (k + 1) cs
    rw [wbE_bare many cs (k + 1)]
theorem wes_mem {es : List Ed} {e : Ed} (h : e ∈ wEs es) : e ∈ es := dedE_mem ((List.mergeSort_perm (dedE [] es) leE).mem_iff.mp h)
theorem wes_len (es : List Ed) : (wEs es).length ≤ es.length := by
  unfold wEs
  rw [(List.mergeSort_perm (dedE [] es) leE).length_eq]
  exact dedE_len es []
theorem wEs_nil : wEs [] = [] := by
  unfold wEs
  rw [dedE, List.mergeSort_nil]
theorem edges_same {m : Nat} {es : List Ed} (hm : m ≤ 8) (hl : es.length ≤ 48) (ok : ∀ e ∈ es, e.ok m) : Same2 (.lst [.lst ((wEs es).map Ed.d), .int (m : Nat)]) (.lst [.lst ((wEs es).map Ed.d), .int (m : Nat)]) := by
  have h1 := wes_len es
  obtain ⟨b1, b2, b3, b4, b5, b6, b7⟩ := bs_all (c := 1000) (h := 1) (xs := (wEs es).map Ed.d) fun x hx => by
    obtain ⟨e, he, rfl⟩ := List.mem_map.mp hx
    exact ed_bs hm (ok e (wes_mem he))
  have hl' : ((wEs es).map Ed.d).length ≤ 48 := by rw [List.length_map]; omega
  have hc : (1000 + 2) * ((wEs es).map Ed.d).length ≤ 1002 * 48 := Nat.mul_le_mul_left _ hl'
  have z1 := sizeLine_eq
  refine ⟨rfl, ?_, showOk_of ?_ ⟨b2, (by show (m : Int).natAbs < _; exact Nat.lt_of_le_of_lt (by omega : _ ≤ 8) (by decide)), trivial⟩ ?_ ?_ (.inl ?_)⟩
  · unfold SeqAt.shaped
    show ((PyData.canLayAll0 (pyA ((wEs es).map Ed.d)) && (true && true)) && decide (max (PyData.depthAll (pyA ((wEs es).map Ed.d)) + 1) (max 0 0) + 1 ≤ 64)) = true
    rw [b7, decide_eq_true (by omega)]; rfl
  · show (plainA ((wEs es).map Ed.d) && (true && true)) = true
    rw [b1]; rfl
  · show ((costA ((wEs es).map Ed.d) + 3) + 2 + (80 + 2 + 0)) + 3 ≤ sizeLine
    omega
  · show max (PyData.depthAll (pyA ((wEs es).map Ed.d)) + 1) (max 0 0) + 1 ≤ 100
    omega
  · show (PyData.hasDictAll (pyA ((wEs es).map Ed.d)) || (false || false)) = false
    rw [b5]; rfl
section
variable {P : Program} {w : World} {K : PySem.W.Frag} {mg : Str → Option Value} {base : Heap}
theorem law_rest0 (T : Tx K mg) (c__law_take : CTake P w K mg base) (c__law_alike : CAlike P w K mg base) (i_Sheet : I_SheetR P w K mg base) (i_Web : I_Web P w K mg base) (c_web_of : C_web_of P w K mg base) (m_Web___eq__ : M_eqW P w K mg base) (m_Web_edges : M_edges P w K mg base) (m_Web___len__ : M_lenW P w K mg base) (c__law_in_order : C__law_in_order P w K mg base) (m_Sheet_columns : M_columns P w K mg base) (c__law_body : C__law_body P w K mg base) (c__law_head : C__law_head P w K mg base) (c__law_foot : C__law_foot P w K mg base)
    {f : Addr} {cdv : Value} {A : Around} {outer : List Env} {s : Shared} {H : Hp} {E : XK} (gd : Ng A) (hr : Room 99 (A.deeper (envOfC "law" (defScope s_law) s.heap.objs.size f cdv))) :
    ∃ tR, PDSs (cxOf CX0 P w K mg base ["_law_script", "_law_bag_here", "_law_turn", "_law_many", "_law_columns", "_law_edges", "_law_here", "_law_body_here", "_law_some", "_law_sheet", "_law_due", "_law_again", "_law_web", "_law_column", "_law_bare", "_law_head_here", "_law_foot_here"] "law" (defScope s_law) f cdv A outer s H E).nox ((defBody s_law).drop 1) tR ∧
      tR { nx := fun _ => False, rt := fun r _ => r = .dt (.bl true) } ((List.replicate 17 Sl.no).set 1 .bag) := by
  refine ⟨_, (show PDSs _ (_ :: _ :: []) _ from (pds_cons (pds_for PassesOwn.never rfl (pdi_rng1 (by rfl) T.b_range (pda_cons (pd_c pe_int fun _ => .int _) pda_nil)) (pdg_name (pg_name (i := 2) sc_law.nd rfl (Or.inl rfl))) (pds_cons (pds_set (i := 3) sc_law.nd rfl (Or.inl rfl) (pd_fn c__law_take (hr.mono (by omega)) (by rfl) (pda_cons (pd_var (pv 1)) (pda_cons (pd_c pe_int fun _ => .int _) pda_nil))))
      (pds_cons (pds_parL (i := 4) (j := 5) rfl sc_law.nd rfl rfl (by decide) rfl rfl (pd_lst pda_nil) (by rfl))
      (pds_cons (pds_for PassesOwn.never rfl (pdi_rng1 (by rfl) T.b_range (pda_cons (pd_var (pv 3)) pda_nil)) (pdg_name (pg_name (i := 6) sc_law.nd rfl (Or.inl rfl))) (pds_cons (pds_unpack (pd_fn c__law_body (hr.mono (by omega)) (by rfl) (pda_cons (pd_var (pv 1)) (pda_cons (pd_var (pv 3)) (pda_cons (pd_var (pv 6)) (pda_cons (pd_c pe_int fun _ => .int _) pda_nil))))) (pdg_names (is := [7, 8]) (pg_tup rfl (pgs_cons (pg_name (i := 7) sc_law.nd rfl (Or.inl rfl)) (pgs_cons (pg_name (i := 8) sc_law.nd rfl (Or.inl rfl)) pgs_nil))) rfl))
      (pds_cons (pds_app (pv 4) (pd_tup (pda_cons (pd_fn c__law_head (hr.mono (by omega)) (by rfl) (pda_cons (pd_var (pv 1)) (pda_cons (pd_var (pv 3)) pda_nil))) (pda_cons (pd_var (pv 7)) (pda_cons (pd_fn c__law_foot (hr.mono (by omega)) (by rfl) (pda_cons (pd_var (pv 1)) (pda_cons (pd_var (pv 3)) pda_nil))) pda_nil)))))
      (pds_one (pds_set (i := 5) sc_law.nd rfl (Or.inl rfl) (pd_addV (pdv_var (pv 5)) (pdv_var (pv 8))))))))
      (pds_cons (pds_par2 (i := 9) (j := 10) rfl sc_law.nd rfl rfl (by decide) rfl rfl (pd_new i_Sheet (hr.mono (by omega)) (by rfl) (pda_cons (pd_var (pv 4)) pda_nil)) (pd_new i_Web (hr.mono (by omega)) (by rfl) (pda_cons (pd_var (pv 3)) (pda_cons (pd_var (pv 5)) pda_nil))) (by rfl))
      (pds_cons (pds_for PassesOwn.never rfl (pdi_rng1 (by rfl) T.b_range (pda_cons (pd_c pe_int fun _ => .int _) pda_nil)) (pdg_name (pg_name (i := 11) sc_law.nd rfl (Or.inl rfl))) (pds_cons (pds_set (i := 12) sc_law.nd rfl (Or.inl rfl) (pd_fn c_web_of (hr.mono (by omega)) (by rfl) (pda_cons (pd_var (pv 9)) pda_nil)))
      (pds_one (pds_if (PDW.t (pdw_or (pdt_neO m_Web___eq__ T.o_Web.ne (hr.mono (by omega)) (pd_var (pv 12)) (pd_var (pv 10))) (pdw_or1 (pdt_not (pdt_b (pd_fnG c__law_alike gd (hr.mono (by omega)) (by rfl) (pda_cons (pd_lst (pda_cons (pd_meth0 m_Web_edges (hr.mono (by omega)) (pd_var (pv 12))) (pda_cons (pd_lenO m_Web___len__ (hr.mono (by omega)) (by rfl) T.b_len (pda_cons (pd_var (pv 12)) pda_nil)) pda_nil))) (pda_cons (pd_lst (pda_cons (pd_fn c__law_in_order (hr.mono (by omega)) (by rfl) (pda_cons (pd_var (pv 5)) pda_nil)) (pda_cons (pd_var (pv 3)) pda_nil))) pda_nil)))))))) (pds_one (pds_ret (pd_c pe_bl fun _ => .bl _))) pds_nil))))
      (pds_cons (pds_if (PDW.t (pdw_or (pdt_neO m_Web___eq__ T.o_Web.ne (hr.mono (by omega)) (pd_fn c_web_of (hr.mono (by omega)) (by rfl) (pda_cons (pd_new i_Sheet (hr.mono (by omega)) (by rfl) (pda_cons (pd_lc rfl sc_law.nd (pdi_over (pd_var (pv 4))) (blkOk_by (own := [("_law_column", 13)]) (N := ["_law_script", "_law_bag_here", "_law_turn", "_law_many", "_law_columns", "_law_edges", "_law_here", "_law_body_here", "_law_some", "_law_sheet", "_law_due", "_law_again", "_law_web", "_law_column", "_law_bare", "_law_head_here", "_law_foot_here"]) (sc := defScope s_law) (by decide +kernel)) rfl (fun _ _ _ _ _ => (pdg_name (pg_name (i := 13) sc_law.nd rfl (Or.inl rfl)))) (fun _ _ _ _ _ => pdts_nil) (fun _ _ _ _ _ => (pd_listV (by rfl) T.b_list (pdv_var (pv 13))))) pda_nil)) pda_nil)) (pd_var (pv 10))) (pdw_or1 (pdt_ne hr.units (pd_meth0 m_Sheet_columns (hr.mono (by omega)) (pd_var (pv 9))) (pd_var (pv 4)))))) (pds_one (pds_ret (pd_c pe_bl fun _ => .bl _))) pds_nil)
      (pds_cons (pds_set (i := 14) sc_law.nd rfl (Or.inl rfl) (pd_new i_Sheet (hr.mono (by omega)) (by rfl) (pda_cons (pd_lc rfl sc_law.nd (pdi_over (pd_var (pv 4))) (blkOk_by (own := [("_law_head_here", 15), ("_law_body_here", 7), ("_law_foot_here", 16)]) (N := ["_law_script", "_law_bag_here", "_law_turn", "_law_many", "_law_columns", "_law_edges", "_law_here", "_law_body_here", "_law_some", "_law_sheet", "_law_due", "_law_again", "_law_web", "_law_column", "_law_bare", "_law_head_here", "_law_foot_here"]) (sc := defScope s_law) (by decide +kernel)) rfl (fun _ _ _ _ _ => (pdg_names (is := [15, 7, 16]) (pg_tup rfl (pgs_cons (pg_name (i := 15) sc_law.nd rfl (Or.inl rfl)) (pgs_cons (pg_name (i := 7) sc_law.nd rfl (Or.inl rfl)) (pgs_cons (pg_name (i := 16) sc_law.nd rfl (Or.inl rfl)) pgs_nil)))) rfl)) (fun _ _ _ _ _ => pdts_nil) (fun _ _ _ _ _ => (pd_tup (pda_cons (pd_tup (pda_cons (pd_c pe_str fun _ => .str _) pda_nil)) (pda_cons (pd_var (pv 7)) (pda_cons (pd_tup (pda_cons (pd_c pe_str fun _ => .str _) pda_nil)) pda_nil)))))) pda_nil)))
      (pds_one (pds_if (pdt_neO m_Web___eq__ T.o_Web.ne (hr.mono (by omega)) (pd_fn c_web_of (hr.mono (by omega)) (by rfl) (pda_cons (pd_var (pv 14)) pda_nil)) (pd_var (pv 10))) (pds_one (pds_ret (pd_c pe_bl fun _ => .bl _))) pds_nil))))))))))
      (pds_one (pds_ret (pd_eqO m_Web___eq__ (hr.mono (by omega)) (pd_fn c_web_of (hr.mono (by omega)) (by rfl) (pda_cons (pd_new i_Sheet (hr.mono (by omega)) (by rfl) (pda_cons (pd_lst pda_nil) pda_nil)) pda_nil)) (pd_new i_Web (hr.mono (by omega)) (by rfl) (pda_cons (pd_c pe_int fun _ => .int _) (pda_cons (pd_lst pda_nil) pda_nil)))))))), ?_⟩
  have z1 := sizeLine_eq
  refine ⟨by decide, by decide, ?_⟩
  refine forD_N (fun δ => ∃ s2 s3 s4 s5 s6 s7 s8 s9 sa sb sc sd se sf sg, δ = [.no, .bag, s2, s3, s4, s5, s6, s7, s8, s9, sa, sb, sc, sd, se, sf, sg]) ?_ ?_ _ _ ⟨_, _, _, _, _, _, _, _, _, _, _, _, _, _, _, rfl⟩
  · rintro d δ N hN ⟨s2, s3, s4, s5, s6, s7, s8, s9, sa, sb, sc, sd, se, sf, sg, rfl⟩
    refine ⟨by decide, by decide, fun m m0 m1 => ?_⟩
    obtain ⟨many, rfl⟩ := Int.eq_ofNat_of_zero_le m0
    have m8 : many ≤ 8 := by omega
    refine ⟨Nat.zero_le _, ?_⟩
    refine ⟨by omega, by omega, ?_⟩
    refine forD_L (fun ds δ => ∃ (cs : List Col) (s6 s7 s8 : Sl), ds = zs cs.length (many - cs.length) ∧ cs.length ≤ many ∧ (∀ c ∈ cs, ColF c) ∧ (wbE many 0 cs).length ≤ 6 * cs.length ∧ (∀ e ∈ wbE many 0 cs, e.ok many) ∧ δ = [.no, .bag, .dt d, .dt (.int many), .ol (cs.map Col.d), .ol ((wbE many 0 cs).map Ed.d), s6, s7, s8, s9, sa, sb, sc, sd, se, sf, sg]) ?_ ?_ _ _ ⟨[], _, _, _, by rw [Int.toNat_natCast]; rfl, Nat.zero_le _, (fun c h => by cases h), Nat.le_refl _, (fun e h => by cases h), rfl⟩
    · rintro d1 ds δ N1 ⟨cs, s6, s7, s8, e1, l1, g, l2, ok, rfl⟩ hN1
      have hlt : cs.length < many := by
        rcases Nat.lt_or_ge cs.length many with h | h
        · exact h
        · rw [show many - cs.length = 0 by omega] at e1; cases e1
      obtain ⟨k, hk⟩ : ∃ k, many - cs.length = k + 1 := ⟨many - cs.length - 1, by omega⟩
      rw [hk] at e1
      cases e1
      refine ⟨many, cs.length, rfl, hlt, m8, fun fb hb hbl hbk => ⟨rfl, ?_⟩⟩
      refine ⟨_, rfl, fun fh hh => ⟨_, rfl, fun ff hf => ⟨le_szL rfl, by rw [List.length_map]; omega, ?_⟩⟩⟩
      refine ⟨by rw [List.length_map, List.length_map]; omega, ?_⟩
      have ew := wbE_snoc many ⟨fh, fb, ff⟩ cs 0
      rw [Nat.zero_add] at ew
      refine hN1 _ ⟨cs ++ [⟨fh, fb, ff⟩], .dt (.int cs.length), .dt fb.d, .dt (.lst ((fb.rds.filterMap (edgeOf many cs.length)).map Ed.d)), ?_, by rw [List.length_append, List.length_singleton]; omega, fun c hc => ?_, ?_, fun e he => ?_, ?_⟩
      · rw [List.length_append, List.length_singleton, show many - (cs.length + 1) = k by omega, Int.natCast_add]; rfl
      · rcases List.mem_append.mp hc with hc | hc
        · exact g c hc
        · rw [List.mem_singleton.mp hc]; exact col_f hh hb hf
      · rw [ew, List.length_append, List.length_append, List.length_singleton]
        have hbl : (List.filterMap (edgeOf many cs.length) (Col.mk fh fb ff).b.rds).length ≤ 6 := hbl
        omega
      · rw [ew] at he
        rcases List.mem_append.mp he with he | he
        · exact ok e he
        · exact hbk e he
      · rw [ew, List.map_append, List.map_append]; rfl
    · rintro δ ⟨cs, s6, s7, s8, e1, l1, g, l2, ok, rfl⟩
      have hm : cs.length = many := by
        rcases Nat.lt_or_ge cs.length many with h | h
        · obtain ⟨k, hk⟩ : ∃ k, many - cs.length = k + 1 := ⟨many - cs.length - 1, by omega⟩
          rw [hk] at e1; cases e1
        · omega
      subst hm
      have fine : ∀ c ∈ cs, c.Fine := fun c hc => (g c hc).fine
      have l48 : (wbE cs.length 0 cs).length ≤ 48 := by omega
      have c8 : cs.length ≤ 1000 := by omega
      have pm : ∀ (h : Col → Bool × Col), (∀ c, (h c).2 = c) → ∀ p ∈ cs.map h, p.2.Fine := fun h hh p hp => by
        obtain ⟨c, hc, rfl⟩ := List.mem_map.mp hp
        rw [hh]; exact fine c hc
      dsimp only
      refine ⟨cs.map fun c => (false, c), by rw [List.map_map]; rfl, by rw [List.length_map]; exact c8, pm _ (fun _ => rfl), fun xa => ?_⟩
      rw [List.map_map]
      refine ⟨cs.length, _, rfl, m8, l48, ok, fun xb => ?_⟩
      have wok : ∀ e ∈ wEs (wbE cs.length 0 cs), e.ok cs.length := fun e he => ok e (wes_mem he)
      have wl : (wEs (wbE cs.length 0 cs)).length ≤ 1000 := by have := wes_len (wbE cs.length 0 cs); omega
      refine ⟨by decide, by decide, ?_⟩
      refine forD_N (fun δ => ∃ s5 sa sb sc : Sl, (s5 = .ol ((wbE cs.length 0 cs).map Ed.d) ∨ s5 = .dt (.lst ((wbE cs.length 0 cs).map Ed.d))) ∧ (sa = webS (He.ga K "Web") xb cs.length (wEs (wbE cs.length 0 cs)) ∨ sa = .dt (webD (He.ga K "Web") cs.length (wEs (wbE cs.length 0 cs)))) ∧ δ = [.no, .bag, .dt d, .dt (.int cs.length), .dt (.lst (cs.map Col.d)), s5, s6, s7, s8, .dt (sheetD (He.ga K "Sheet") cs), sa, sb, sc, sd, se, sf, sg]) ?_ ?_ _ _ ⟨_, _, _, _, .inr rfl, .inl rfl, rfl⟩
      · rintro d1 δ N1 hN1 ⟨s5, sa, sb, sc, e5, ea, rfl⟩
        refine ⟨cs, rfl, m8, fine, l48, ok, fun xc => ?_⟩
        rcases e5 with rfl | rfl <;> rcases ea with rfl | rfl
        all_goals
          refine ⟨rfl, rfl, _, _, rfl, m8, wok, true, rfl, ?_⟩
          refine ⟨rfl, by decide, cs.length, _, rfl, wl, ?_⟩
          refine ⟨rfl, cs.length, _, rfl, _, rfl, (by omega : (0 : Int) ≤ ((cs.length : Nat) : Int)), (by omega : ((cs.length : Nat) : Int) < 2 ^ 63), le_szL rfl, ?_⟩
          refine ⟨cs.length, _, rfl, m8, by omega, ok, le_szL rfl, ?_⟩
          refine ⟨edges_same m8 l48 ok, ?_⟩
          exact hN1 _ ⟨_, _, _, _, .inr rfl, .inr rfl, rfl⟩
      · rintro δ ⟨s5, sa, sb, sc, e5, ea, rfl⟩
        dsimp only
        refine ⟨by rw [List.length_map]; omega, ?_⟩
        refine comp_map Col.d (fun c => rowP (true, c)) cs _ _ (fun c hc C hC => ⟨le_szL rfl, hC _ rfl⟩) ?_
        rw [List.nil_append]
        refine ⟨cs.map fun c => (true, c), by rw [List.map_map]; rfl, by rw [List.length_map]; exact c8, pm _ (fun _ => rfl), fun xc => ?_⟩
        rw [List.map_map]
        refine ⟨cs, rfl, m8, fine, l48, ok, fun xd => ?_⟩
        rcases ea with rfl | rfl
        all_goals
          refine ⟨rfl, rfl, _, _, rfl, m8, wok, true, rfl, ?_⟩
          refine ⟨rfl, by decide, cs, rfl, c8, ?_⟩
          refine ⟨colf_lay g, colf_lay g, ?_⟩
          refine if_no (by rw [SeqAt.eqv_refl _ (shaped_lay (colf_lay g))]; rfl) ?_
          dsimp only [tdNext]
          refine ⟨by rw [List.length_map]; omega, ?_⟩
          refine comp_mapG mono_gNs Col.d (fun c => (bareC c).d) cs _ _ (fun c hc C hC => ?_) ?_
          · refine ⟨rfl, le_szL rfl, le_szL rfl, le_szL rfl, rfl, ?_⟩
            have z : (bareC c).d = .tup [.tup [.str "empty"], c.b.d, .tup [.str "empty"]] := by
              show D.tup [Fm.d .emp, c.b.d, Fm.d .emp] = _
              rw [Fm.d]
            rw [z] at hC
            exact hC
          · rw [List.nil_append]
            have eb : (cs.map fun c => (bareC c).d) = (cs.map bareC).map Col.d := by rw [List.map_map]; rfl
            have ebl : (cs.map bareC).length = cs.length := List.length_map _
            have fb : ∀ c ∈ cs.map bareC, c.Fine := fun c hc0 => by
              obtain ⟨c, hc, rfl⟩ := List.mem_map.mp hc0
              exact ⟨(WholeF.wf .head (.inr (gf_emp.mono (by decide)))), (fine c hc).b, (WholeF.wf .foot (.inr (gf_emp.mono (by decide))))⟩
            have ew : wbE (cs.map bareC).length 0 (cs.map bareC) = wbE cs.length 0 cs := by rw [ebl, wbE_bare]
            refine ⟨(cs.map bareC).map fun c => (false, c), by rw [eb]; exact congrArg (fun z => [Sl.dt (D.lst z)]) (List.map_map (f := fun c => (false, c)) (g := rowP) (l := cs.map bareC)).symm, by rw [List.length_map, ebl]; exact c8, (fun p hp => by
              obtain ⟨c, hc, rfl⟩ := List.mem_map.mp hp
              exact fb c hc), fun xe => ?_⟩
            rw [List.map_map]
            refine ⟨cs.map bareC, rfl, by rw [ebl]; exact m8, fb, by rw [ew]; exact l48, by rw [ew, ebl]; exact ok, fun xf => ?_⟩
            rw [ew, ebl]
            refine ⟨rfl, rfl, _, _, rfl, m8, wok, true, rfl, ?_⟩
            exact hN _ ⟨_, _, _, _, _, _, _, _, _, _, _, _, _, _, _, rfl⟩
  · rintro δ ⟨s2, s3, s4, s5, s6, s7, s8, s9, sa, sb, sc, sd, se, sf, sg, rfl⟩
    dsimp only
    refine ⟨Nat.zero_le _, [], rfl, Nat.zero_le _, (fun p h => by cases h), fun xa => ?_⟩
    refine ⟨[], rfl, Nat.zero_le _, (fun p h => by cases h), Nat.zero_le _, (fun p h => by cases h), fun xb => ?_⟩
    refine ⟨Nat.zero_le _, 0, [], rfl, Nat.zero_le _, Nat.zero_le _, (fun p h => by cases h), fun xc => ?_⟩
    exact ⟨rfl, rfl, 0, wEs [], rfl, Nat.zero_le _, (fun p h => by rw [wEs_nil] at h; cases h), true, rfl, rfl⟩
end

end K31
set_option Elab.async false
set_option linter.all false
set_option maxRecDepth 100000
set_option maxHeartbeats 4000000
namespace K31
open PySem PySem.Spec PyProof.Rows L2 DL
/-! ### the head -/
def fn : List He.DefD := [dfd "_wall" s__wall, dfd "is_integer" s_is_integer, dfd "is_number" s_is_number, dfd "is_column_part" s_is_column_part, dfd "is_row_part" s_is_row_part, dfd "is_name" s_is_name, dfd "is_limit" s_is_limit, dfd "is_range" s_is_range, dfd "column_of" s_column_of, dfd "are_formulas" s_are_formulas, dfd "is_long_formula" s_is_long_formula, dfd "is_formula" s_is_formula, dfd "parts" s_parts, dfd "reads" s_reads, dfd "read_fits" s_read_fits, dfd "has_input" s_has_input, dfd "fits" s_fits, dfd "is_end" s_is_end, dfd "is_edge" s_is_edge, dfd "edge_key" s_edge_key, dfd "minus" s_minus, dfd "edge_of" s_edge_of, dfd "web_of" s_web_of, dfd "is_row_of_formulas" s_is_row_of_formulas, dfd "_law_bag" s__law_bag, dfd "_law_take" s__law_take, dfd "_law_one" s__law_one, dfd "_law_alike" s__law_alike, dfd "_law_key" s__law_key, dfd "_law_in_order" s__law_in_order, dfd "_law_read" s__law_read, dfd "_law_around" s__law_around, dfd "_law_body" s__law_body, dfd "_law_head" s__law_head, dfd "_law_foot" s__law_foot, dfd "law" s_law, ⟨("Sheet", some "__init__"), "__init__", "Sheet.__init__", defArgs s_Sheet___init__, defBody s_Sheet___init__, defScope s_Sheet___init__, [], []⟩, ⟨("Sheet", some "columns"), "columns", "Sheet.columns", defArgs s_Sheet_columns, defBody s_Sheet_columns, defScope s_Sheet_columns, [], []⟩, ⟨("Sheet", some "has_column"), "has_column", "Sheet.has_column", defArgs s_Sheet_has_column, defBody s_Sheet_has_column, defScope s_Sheet_has_column, [], []⟩, ⟨("Sheet", some "__len__"), "__len__", "Sheet.__len__", defArgs s_Sheet___len__, defBody s_Sheet___len__, defScope s_Sheet___len__, [], []⟩, ⟨("Web", some "__init__"), "__init__", "Web.__init__", defArgs s_Web___init__, defBody s_Web___init__, defScope s_Web___init__, [], []⟩, ⟨("Web", some "edges"), "edges", "Web.edges", defArgs s_Web_edges, defBody s_Web_edges, defScope s_Web_edges, [], []⟩, ⟨("Web", some "__len__"), "__len__", "Web.__len__", defArgs s_Web___len__, defBody s_Web___len__, defScope s_Web___len__, [], []⟩, ⟨("Web", some "__eq__"), "__eq__", "Web.__eq__", defArgs s_Web___eq__, defBody s_Web___eq__, defScope s_Web___eq__, [], []⟩]
def fa : List He.Fa := [.glo "_wall", .glo "is_integer", .glo "is_number", .glo "is_column_part", .glo "is_row_part", .glo "is_name", .glo "is_limit", .glo "is_range", .glo "column_of", .glo "are_formulas", .glo "is_long_formula", .glo "is_formula", .glo "parts", .glo "reads", .glo "read_fits", .glo "has_input", .glo "fits", .glo "is_end", .glo "is_edge", .glo "edge_key", .glo "minus", .glo "edge_of", .glo "web_of", .glo "is_row_of_formulas", .glo "_law_bag", .glo "_law_take", .glo "_law_one", .glo "_law_alike", .glo "_law_key", .glo "_law_in_order", .glo "_law_read", .glo "_law_around", .glo "_law_body", .glo "_law_head", .glo "_law_foot", .glo "law", .free "TypeError", .free "ValueError", .free "abs", .free "all", .free "any", .free "bool", .free "enumerate", .free "int", .free "isinstance", .free "len", .free "list", .free "max", .free "min", .free "range", .free "repr", .free "sorted", .free "str", .free "tuple", .free "zip", .int "FAR" 1000000000000, .int "MOST_COLUMNS" 8, .int "MOST_EDGES" 48, .int "FARTHEST" 5, .glo "SIGNS", .glo "PLACES", .glo "OVER_RANGES", .cls "Sheet", .cls "Web", .noat "Sheet" "its_columns", .noat "Web" "kept_columns", .noat "Web" "kept_edges", .mkr "Sheet", .mkr "Web", .glo "Sheet", .glo "Web", .meth "Sheet" "columns", .meth "Sheet" "has_column", .meth "Sheet" "__len__", .meth "Web" "edges", .meth "Web" "__len__", .meth "Web" "__eq__"]
def chk (K : PySem.W.Frag) : Bool := (fa.all fun f => f.ok K) && He.tupB K "SIGNS" [.str "<", .str "<=", .str "<>", .str "=", .str ">", .str ">="] && He.tupB K "PLACES" [.str "head", .str "body", .str "foot"] && He.tupB K "OVER_RANGES" [.str "low", .str "many", .str "top", .str "total"] && ownB K (He.ga K "Sheet") && ownB K (He.ga K "Web") && (K.lookup sysModules).isSome
abbrev R : PySem.W.OpenRow := PySem.W.OpenLaw.row PySem.Challenge.rw_longsheet_k31_webs_of_sheets
abbrev hk : PySem.W.Hook := hookY 4 chk fn
def ob (s : PySem.W.SharedT) : He.AlD := obsYG 4 chk fn (HandSHeadRun.getT s)
theorem ob_eq (s : PySem.W.SharedT) : ob s = hk.obs s.abs := obsYG_eq (HandSHeadRun.getT_eq s)
def loose : List PySem.Str := [("_wall" : PySem.Str), ("SheetError" : PySem.Str), ("Wrong" : PySem.Str), ("NoColumn" : PySem.Str), ("NoFit" : PySem.Str), ("FAR" : PySem.Str), ("is_integer" : PySem.Str), ("is_number" : PySem.Str), ("is_column_part" : PySem.Str), ("is_row_part" : PySem.Str), ("is_name" : PySem.Str), ("is_limit" : PySem.Str), ("is_range" : PySem.Str), ("column_of" : PySem.Str), ("SIGNS" : PySem.Str), ("PLACES" : PySem.Str), ("OVER_RANGES" : PySem.Str), ("are_formulas" : PySem.Str), ("is_long_formula" : PySem.Str), ("is_formula" : PySem.Str), ("parts" : PySem.Str), ("reads" : PySem.Str), ("read_fits" : PySem.Str), ("has_input" : PySem.Str), ("fits" : PySem.Str), ("MOST_COLUMNS" : PySem.Str), ("MOST_EDGES" : PySem.Str), ("FARTHEST" : PySem.Str), ("is_end" : PySem.Str), ("is_edge" : PySem.Str), ("edge_key" : PySem.Str), ("minus" : PySem.Str), ("Web" : PySem.Str), ("edge_of" : PySem.Str), ("web_of" : PySem.Str), ("is_row_of_formulas" : PySem.Str), ("Sheet" : PySem.Str), ("_law_bag" : PySem.Str), ("_law_take" : PySem.Str), ("_law_one" : PySem.Str), ("_law_alike" : PySem.Str), ("_law_key" : PySem.Str), ("_law_in_order" : PySem.Str), ("_law_read" : PySem.Str), ("_law_around" : PySem.Str), ("_law_body" : PySem.Str), ("_law_head" : PySem.Str), ("_law_foot" : PySem.Str)]
theorem run (w : World) : HandSHeadRun.RunEq R (PySem.W.view R.prog [55]) hk ob 6000 loose w := by
  intro os
  kernel_rfl
theorem faOk {K : PySem.W.Frag} (c : (fa.all fun f => f.ok K) = true) {f : He.Fa} (i : Nat) (h : fa[i]? = some f := by rfl) : f.ok K = true :=
  List.all_eq_true.mp c f (List.mem_of_getElem? h)
theorem facts {P : Program} {w : World} {K : PySem.W.Frag} {h : Heap} {mg : Str → Option Value} {f : Addr} (X : K.In h) (G : h.Ns mainGlobals mg) (hfa : mg ("law" : Str) = some (.ref f)) (c : SaysX chk fn K) :
    ∃ fd : FuncData, (∀ (s : Shared) (v : Value), BindsTo s fd ⟨[v], []⟩ [("_law_script", v)]) ∧ ∀ base : Heap, K.In base → base.Ns mainGlobals mg → FnG P w K mg base 100 f fd ["_law_script"] (spLaw K) := by
  have ck := c.yes
  have ck0 : (fa.all fun f => f.ok K) = true := (Bool.and_eq_true_iff.mp (Bool.and_eq_true_iff.mp (Bool.and_eq_true_iff.mp (Bool.and_eq_true_iff.mp (Bool.and_eq_true_iff.mp (Bool.and_eq_true_iff.mp ck).1).1).1).1).1).1
  have T : Tx K mg := ⟨He.free_ok X G (faOk ck0 36), He.free_ok X G (faOk ck0 37), He.free_ok X G (faOk ck0 38), He.free_ok X G (faOk ck0 39), He.free_ok X G (faOk ck0 40), He.free_ok X G (faOk ck0 41), He.free_ok X G (faOk ck0 42), He.free_ok X G (faOk ck0 43), He.free_ok X G (faOk ck0 44), He.free_ok X G (faOk ck0 45), He.free_ok X G (faOk ck0 46), He.free_ok X G (faOk ck0 47), He.free_ok X G (faOk ck0 48), He.free_ok X G (faOk ck0 49), He.free_ok X G (faOk ck0 50), He.free_ok X G (faOk ck0 51), He.free_ok X G (faOk ck0 52), He.free_ok X G (faOk ck0 53), He.free_ok X G (faOk ck0 54), He.int_ok X G (faOk ck0 55), He.int_ok X G (faOk ck0 56), He.int_ok X G (faOk ck0 57), He.int_ok X G (faOk ck0 58), He.glo_ok X G (faOk ck0 59), fun G => He.tupB_ok (Bool.and_eq_true_iff.mp (Bool.and_eq_true_iff.mp (Bool.and_eq_true_iff.mp (Bool.and_eq_true_iff.mp (Bool.and_eq_true_iff.mp (Bool.and_eq_true_iff.mp ck).1).1).1).1).1).2 G, He.glo_ok X G (faOk ck0 60), fun G => He.tupB_ok (Bool.and_eq_true_iff.mp (Bool.and_eq_true_iff.mp (Bool.and_eq_true_iff.mp (Bool.and_eq_true_iff.mp (Bool.and_eq_true_iff.mp ck).1).1).1).1).2 G, He.glo_ok X G (faOk ck0 61), fun G => He.tupB_ok (Bool.and_eq_true_iff.mp (Bool.and_eq_true_iff.mp (Bool.and_eq_true_iff.mp (Bool.and_eq_true_iff.mp ck).1).1).1).2 G, He.cls_ok (faOk ck0 62), He.noat_ok (faOk ck0 64), He.cls_ok (faOk ck0 63), He.noat_ok (faOk ck0 65), He.noat_ok (faOk ck0 66), (Bool.and_eq_true_iff.mp ck).2, ownB_ok (Bool.and_eq_true_iff.mp (Bool.and_eq_true_iff.mp (Bool.and_eq_true_iff.mp ck).1).1).2, He.glo_ok X G (faOk ck0 69), ownB_ok (Bool.and_eq_true_iff.mp (Bool.and_eq_true_iff.mp ck).1).2, He.glo_ok X G (faOk ck0 70)⟩
  have d__wall : Dfn K mg "_wall" s__wall ["k"] := Dfn.of X G (faOk ck0 0) (c.def_ 0 (d := dfd "_wall" s__wall)) (fun _ _ _ _ _ _ us hl => match us, hl with | [_], _ => rfl)
  have d_is_integer : Dfn K mg "is_integer" s_is_integer ["thing"] := Dfn.of X G (faOk ck0 1) (c.def_ 1 (d := dfd "is_integer" s_is_integer)) (fun _ _ _ _ _ _ us hl => match us, hl with | [_], _ => rfl)
  have d_is_number : Dfn K mg "is_number" s_is_number ["thing"] := Dfn.of X G (faOk ck0 2) (c.def_ 2 (d := dfd "is_number" s_is_number)) (fun _ _ _ _ _ _ us hl => match us, hl with | [_], _ => rfl)
  have d_is_column_part : Dfn K mg "is_column_part" s_is_column_part ["thing"] := Dfn.of X G (faOk ck0 3) (c.def_ 3 (d := dfd "is_column_part" s_is_column_part)) (fun _ _ _ _ _ _ us hl => match us, hl with | [_], _ => rfl)
  have d_is_row_part : Dfn K mg "is_row_part" s_is_row_part ["thing"] := Dfn.of X G (faOk ck0 4) (c.def_ 4 (d := dfd "is_row_part" s_is_row_part)) (fun _ _ _ _ _ _ us hl => match us, hl with | [_], _ => rfl)
  have d_is_name : Dfn K mg "is_name" s_is_name ["thing"] := Dfn.of X G (faOk ck0 5) (c.def_ 5 (d := dfd "is_name" s_is_name)) (fun _ _ _ _ _ _ us hl => match us, hl with | [_], _ => rfl)
  have d_is_limit : Dfn K mg "is_limit" s_is_limit ["thing"] := Dfn.of X G (faOk ck0 6) (c.def_ 6 (d := dfd "is_limit" s_is_limit)) (fun _ _ _ _ _ _ us hl => match us, hl with | [_], _ => rfl)
  have d_is_range : Dfn K mg "is_range" s_is_range ["thing"] := Dfn.of X G (faOk ck0 7) (c.def_ 7 (d := dfd "is_range" s_is_range)) (fun _ _ _ _ _ _ us hl => match us, hl with | [_], _ => rfl)
  have d_column_of : Dfn K mg "column_of" s_column_of ["read", "column"] := Dfn.of X G (faOk ck0 8) (c.def_ 8 (d := dfd "column_of" s_column_of)) (fun _ _ _ _ _ _ us hl => match us, hl with | [_, _], _ => rfl)
  have d_are_formulas : Dfn K mg "are_formulas" s_are_formulas ["thing"] := Dfn.of X G (faOk ck0 9) (c.def_ 9 (d := dfd "are_formulas" s_are_formulas)) (fun _ _ _ _ _ _ us hl => match us, hl with | [_], _ => rfl)
  have d_is_long_formula : Dfn K mg "is_long_formula" s_is_long_formula ["thing"] := Dfn.of X G (faOk ck0 10) (c.def_ 10 (d := dfd "is_long_formula" s_is_long_formula)) (fun _ _ _ _ _ _ us hl => match us, hl with | [_], _ => rfl)
  have d_is_formula : Dfn K mg "is_formula" s_is_formula ["thing"] := Dfn.of X G (faOk ck0 11) (c.def_ 11 (d := dfd "is_formula" s_is_formula)) (fun _ _ _ _ _ _ us hl => match us, hl with | [_], _ => rfl)
  have d_parts : Dfn K mg "parts" s_parts ["formula"] := Dfn.of X G (faOk ck0 12) (c.def_ 12 (d := dfd "parts" s_parts)) (fun _ _ _ _ _ _ us hl => match us, hl with | [_], _ => rfl)
  have d_reads : Dfn K mg "reads" s_reads ["formula"] := Dfn.of X G (faOk ck0 13) (c.def_ 13 (d := dfd "reads" s_reads)) (fun _ _ _ _ _ _ us hl => match us, hl with | [_], _ => rfl)
  have d_read_fits : Dfn K mg "read_fits" s_read_fits ["read", "place"] := Dfn.of X G (faOk ck0 14) (c.def_ 14 (d := dfd "read_fits" s_read_fits)) (fun _ _ _ _ _ _ us hl => match us, hl with | [_, _], _ => rfl)
  have d_has_input : Dfn K mg "has_input" s_has_input ["formula"] := Dfn.of X G (faOk ck0 15) (c.def_ 15 (d := dfd "has_input" s_has_input)) (fun _ _ _ _ _ _ us hl => match us, hl with | [_], _ => rfl)
  have d_fits : Dfn K mg "fits" s_fits ["formula", "place"] := Dfn.of X G (faOk ck0 16) (c.def_ 16 (d := dfd "fits" s_fits)) (fun _ _ _ _ _ _ us hl => match us, hl with | [_, _], _ => rfl)
  have d_is_end : Dfn K mg "is_end" s_is_end ["thing"] := Dfn.of X G (faOk ck0 17) (c.def_ 17 (d := dfd "is_end" s_is_end)) (fun _ _ _ _ _ _ us hl => match us, hl with | [_], _ => rfl)
  have d_is_edge : Dfn K mg "is_edge" s_is_edge ["thing", "many"] := Dfn.of X G (faOk ck0 18) (c.def_ 18 (d := dfd "is_edge" s_is_edge)) (fun _ _ _ _ _ _ us hl => match us, hl with | [_, _], _ => rfl)
  have d_edge_key : Dfn K mg "edge_key" s_edge_key ["edge"] := Dfn.of X G (faOk ck0 19) (c.def_ 19 (d := dfd "edge_key" s_edge_key)) (fun _ _ _ _ _ _ us hl => match us, hl with | [_], _ => rfl)
  have d_minus : Dfn K mg "minus" s_minus ["end"] := Dfn.of X G (faOk ck0 20) (c.def_ 20 (d := dfd "minus" s_minus)) (fun _ _ _ _ _ _ us hl => match us, hl with | [_], _ => rfl)
  have d_edge_of : Dfn K mg "edge_of" s_edge_of ["read", "here", "many"] := Dfn.of X G (faOk ck0 21) (c.def_ 21 (d := dfd "edge_of" s_edge_of)) (fun _ _ _ _ _ _ us hl => match us, hl with | [_, _, _], _ => rfl)
  have d_web_of : Dfn K mg "web_of" s_web_of ["sheet"] := Dfn.of X G (faOk ck0 22) (c.def_ 22 (d := dfd "web_of" s_web_of)) (fun _ _ _ _ _ _ us hl => match us, hl with | [_], _ => rfl)
  have d_is_row_of_formulas : Dfn K mg "is_row_of_formulas" s_is_row_of_formulas ["thing"] := Dfn.of X G (faOk ck0 23) (c.def_ 23 (d := dfd "is_row_of_formulas" s_is_row_of_formulas)) (fun _ _ _ _ _ _ us hl => match us, hl with | [_], _ => rfl)
  have d__law_bag : Dfn K mg "_law_bag" s__law_bag ["_law_script"] := Dfn.of X G (faOk ck0 24) (c.def_ 24 (d := dfd "_law_bag" s__law_bag)) (fun _ _ _ _ _ _ us hl => match us, hl with | [_], _ => rfl)
  have d__law_take : Dfn K mg "_law_take" s__law_take ["_law_bag_here", "_law_many"] := Dfn.of X G (faOk ck0 25) (c.def_ 25 (d := dfd "_law_take" s__law_take)) (fun _ _ _ _ _ _ us hl => match us, hl with | [_, _], _ => rfl)
  have d__law_one : Dfn K mg "_law_one" s__law_one ["_law_bag_here", "_law_some"] := Dfn.of X G (faOk ck0 26) (c.def_ 26 (d := dfd "_law_one" s__law_one)) (fun _ _ _ _ _ _ us hl => match us, hl with | [_, _], _ => rfl)
  have d__law_alike : Dfn K mg "_law_alike" s__law_alike ["_law_found", "_law_due"] := Dfn.of X G (faOk ck0 27) (c.def_ 27 (d := dfd "_law_alike" s__law_alike)) (fun _ _ _ _ _ _ us hl => match us, hl with | [_, _], _ => rfl)
  have d__law_key : Dfn K mg "_law_key" s__law_key ["_law_edge"] := Dfn.of X G (faOk ck0 28) (c.def_ 28 (d := dfd "_law_key" s__law_key)) (fun _ _ _ _ _ _ us hl => match us, hl with | [_], _ => rfl)
  have d__law_in_order : Dfn K mg "_law_in_order" s__law_in_order ["_law_edges"] := Dfn.of X G (faOk ck0 29) (c.def_ 29 (d := dfd "_law_in_order" s__law_in_order)) (fun _ _ _ _ _ _ us hl => match us, hl with | [_], _ => rfl)
  have d__law_read : Dfn K mg "_law_read" s__law_read ["_law_bag_here", "_law_many", "_law_here"] := Dfn.of X G (faOk ck0 30) (c.def_ 30 (d := dfd "_law_read" s__law_read)) (fun _ _ _ _ _ _ us hl => match us, hl with | [_, _, _], _ => rfl)
  have d__law_around : Dfn K mg "_law_around" s__law_around ["_law_bag_here", "_law_read_here"] := Dfn.of X G (faOk ck0 31) (c.def_ 31 (d := dfd "_law_around" s__law_around)) (fun _ _ _ _ _ _ us hl => match us, hl with | [_, _], _ => rfl)
  have d__law_body : Dfn K mg "_law_body" s__law_body ["_law_bag_here", "_law_many", "_law_here", "_law_most"] := Dfn.of X G (faOk ck0 32) (c.def_ 32 (d := dfd "_law_body" s__law_body)) (fun _ _ _ _ _ _ us hl => match us, hl with | [_, _, _, _], _ => rfl)
  have d__law_head : Dfn K mg "_law_head" s__law_head ["_law_bag_here", "_law_many"] := Dfn.of X G (faOk ck0 33) (c.def_ 33 (d := dfd "_law_head" s__law_head)) (fun _ _ _ _ _ _ us hl => match us, hl with | [_, _], _ => rfl)
  have d__law_foot : Dfn K mg "_law_foot" s__law_foot ["_law_bag_here", "_law_many"] := Dfn.of X G (faOk ck0 34) (c.def_ 34 (d := dfd "_law_foot" s__law_foot)) (fun _ _ _ _ _ _ us hl => match us, hl with | [_, _], _ => rfl)
  have d_law : Dfn K mg "law" s_law ["_law_script"] := Dfn.of X G (faOk ck0 35) (c.def_ 35 (d := dfd "law" s_law)) (fun _ _ _ _ _ _ us hl => match us, hl with | [_], _ => rfl)
  have d_Sheet___init__ : Dfi K mg (He.ga K "Sheet") "Sheet" "Sheet.__init__" s_Sheet___init__ ["self", "columns"] := by
    obtain ⟨fd, F⟩ := c.def_ 36 (d := fn.getD 36 (dfd "" s_law))
    have F2 : Fun K "__init__" "Sheet.__init__" s_Sheet___init__ (He.ma K (He.ga K "Sheet") "__init__") fd := fun_of F
    exact ⟨_, fd, F2, He.mkr_ok (faOk ck0 67), He.glo_ok X G (faOk ck0 69), F2.binds (fun _ _ _ _ _ _ us hl => match us, hl with | [_, _], _ => rfl)⟩
  have d_Sheet_columns : Dfm K (He.ga K "Sheet") "columns" "Sheet.columns" s_Sheet_columns ["self"] := by
    obtain ⟨fd, F⟩ := c.def_ 37 (d := fn.getD 37 (dfd "" s_law))
    have F2 : Fun K "columns" "Sheet.columns" s_Sheet_columns (He.ma K (He.ga K "Sheet") "columns") fd := fun_of F
    exact ⟨_, fd, F2, He.meth_ok (faOk ck0 71), F2.binds (fun _ _ _ _ _ _ us hl => match us, hl with | [_], _ => rfl)⟩
  have d_Sheet_has_column : Dfm K (He.ga K "Sheet") "has_column" "Sheet.has_column" s_Sheet_has_column ["self", "thing"] := by
    obtain ⟨fd, F⟩ := c.def_ 38 (d := fn.getD 38 (dfd "" s_law))
    have F2 : Fun K "has_column" "Sheet.has_column" s_Sheet_has_column (He.ma K (He.ga K "Sheet") "has_column") fd := fun_of F
    exact ⟨_, fd, F2, He.meth_ok (faOk ck0 72), F2.binds (fun _ _ _ _ _ _ us hl => match us, hl with | [_, _], _ => rfl)⟩
  have d_Sheet___len__ : Dfm K (He.ga K "Sheet") "__len__" "Sheet.__len__" s_Sheet___len__ ["self"] := by
    obtain ⟨fd, F⟩ := c.def_ 39 (d := fn.getD 39 (dfd "" s_law))
    have F2 : Fun K "__len__" "Sheet.__len__" s_Sheet___len__ (He.ma K (He.ga K "Sheet") "__len__") fd := fun_of F
    exact ⟨_, fd, F2, He.meth_ok (faOk ck0 73), F2.binds (fun _ _ _ _ _ _ us hl => match us, hl with | [_], _ => rfl)⟩
  have d_Web___init__ : Dfi K mg (He.ga K "Web") "Web" "Web.__init__" s_Web___init__ ["self", "many", "edges"] := by
    obtain ⟨fd, F⟩ := c.def_ 40 (d := fn.getD 40 (dfd "" s_law))
    have F2 : Fun K "__init__" "Web.__init__" s_Web___init__ (He.ma K (He.ga K "Web") "__init__") fd := fun_of F
    exact ⟨_, fd, F2, He.mkr_ok (faOk ck0 68), He.glo_ok X G (faOk ck0 70), F2.binds (fun _ _ _ _ _ _ us hl => match us, hl with | [_, _, _], _ => rfl)⟩
  have d_Web_edges : Dfm K (He.ga K "Web") "edges" "Web.edges" s_Web_edges ["self"] := by
    obtain ⟨fd, F⟩ := c.def_ 41 (d := fn.getD 41 (dfd "" s_law))
    have F2 : Fun K "edges" "Web.edges" s_Web_edges (He.ma K (He.ga K "Web") "edges") fd := fun_of F
    exact ⟨_, fd, F2, He.meth_ok (faOk ck0 74), F2.binds (fun _ _ _ _ _ _ us hl => match us, hl with | [_], _ => rfl)⟩
  have d_Web___len__ : Dfm K (He.ga K "Web") "__len__" "Web.__len__" s_Web___len__ ["self"] := by
    obtain ⟨fd, F⟩ := c.def_ 42 (d := fn.getD 42 (dfd "" s_law))
    have F2 : Fun K "__len__" "Web.__len__" s_Web___len__ (He.ma K (He.ga K "Web") "__len__") fd := fun_of F
    exact ⟨_, fd, F2, He.meth_ok (faOk ck0 75), F2.binds (fun _ _ _ _ _ _ us hl => match us, hl with | [_], _ => rfl)⟩
  have d_Web___eq__ : Dfm K (He.ga K "Web") "__eq__" "Web.__eq__" s_Web___eq__ ["self", "other"] := by
    obtain ⟨fd, F⟩ := c.def_ 43 (d := fn.getD 43 (dfd "" s_law))
    have F2 : Fun K "__eq__" "Web.__eq__" s_Web___eq__ (He.ma K (He.ga K "Web") "__eq__") fd := fun_of F
    exact ⟨_, fd, F2, He.meth_ok (faOk ck0 76), F2.binds (fun _ _ _ _ _ _ us hl => match us, hl with | [_, _], _ => rfl)⟩
  obtain ⟨fB, fdB, FB, mB, bB⟩ := d__law_bag.ex
  obtain ⟨fL, fdL, FL, mL, _⟩ := d_law.ex
  have e := hfa.symm.trans mL
  cases e
  refine ⟨fdL, fun s v => ?_, fun base _ _ => ?_⟩
  · obtain ⟨oc, od, kV, doc, pm, an, cdv, ct, osl, rfl, _⟩ := FL.ex
    exact .of_eq rfl
  have c_is_integer : C_is_integer P w K mg base := ok_is_integer T d_is_integer
  have c_is_number : C_is_number P w K mg base := ok_is_number T d_is_number
  have c_is_column_part : C_is_column_part P w K mg base := ok_is_column_part T d_is_column_part
  have c_is_row_part : C_is_row_part P w K mg base := ok_is_row_part T d_is_row_part
  have c_is_limit : C_is_limit P w K mg base := ok_is_limit T d_is_limit
  have c_is_name : C_is_name P w K mg base := ok_is_name T d_is_name
  have c_is_range : C_is_range P w K mg base := ok_is_range T d_is_range
  have c_column_of : C_column_of P w K mg base := ok_column_of d_column_of
  have c_parts : C_parts P w K mg base := ok_parts T d_parts
  have c_reads : ∀ n, C_reads n P w K mg base := ok_reads T d_reads
  have c_has_input : ∀ n, C_has_input n P w K mg base := ok_has_input T d_has_input
  have c_read_fits : C_read_fits P w K mg base := ok_read_fits T d_read_fits
  have c_fits := ok_fits 5 T d_fits (c_has_input 5) (c_reads 5)
  have c_is_formula : ∀ n, C_is_formula n P w K mg base := ok_is_formula T d_is_formula d_are_formulas d_is_long_formula
  have c_is_row : C_is_row_of_formulas P w K mg base := ok_is_row T d_is_row_of_formulas (c_is_formula 5)
  have i_Sheet : I_SheetR P w K mg base := ok_Sheet_initR T d_Sheet___init__ c_fits
  have m_cols : M_columns P w K mg base := ok_columns T d_Sheet_columns
  have m_len : M_len P w K mg base := ok_len T d_Sheet___len__
  have c_is_end : C_is_end P w K mg base := ok_is_end T d_is_end
  have c_is_edge : C_is_edge P w K mg base := ok_is_edge T d_is_edge
  have c_edge_key : C_edge_key P w K mg base := ok_edge_key T d_edge_key
  have i_Web : I_Web P w K mg base := ok_Web_init T d_Web___init__
  have m_edges : M_edges P w K mg base := ok_edges T d_Web_edges
  have m_lenW : M_lenW P w K mg base := ok_lenW T d_Web___len__
  have m_eqW : M_eqW P w K mg base := ok_eqW T d_Web___eq__
  have c_edge_of : C_edge_of P w K mg base := ok_edge_of T d_edge_of
  have c_web_of : C_web_of P w K mg base := ok_web_of T d_web_of (c_reads 5) m_len m_cols i_Web
  have t_take : CTake P w K mg base := ok_take T d__law_take
  have t_one : COne P w K mg base := ok_one T d__law_one
  have t_alike : CAlike P w K mg base := ok_alike T d__law_alike
  have l_key : C__law_key P w K mg base := ok_lkey T d__law_key
  have l_order : C__law_in_order P w K mg base := ok_order T d__law_in_order
  have l_read : C__law_read P w K mg base := ok_lread T d__law_read t_take t_one
  have l_around : C__law_around P w K mg base := ok_around T d__law_around t_take t_one
  have l_body : C__law_body P w K mg base := ok_body T d__law_body t_take t_one
  have l_head : C__law_head P w K mg base := ok_lhead T d__law_head t_take t_one
  have l_foot : C__law_foot P w K mg base := ok_lfoot T d__law_foot t_take t_one
  have law_rest := fun (T : Tx K mg) {f : Addr} {cdv : Value} {A : Around} {outer : List Env} {s : Shared} {H : Hp} {E : XK} (gd : Ng A) (hr : Room 99 (A.deeper (envOfC "law" (defScope s_law) s.heap.objs.size f cdv))) => law_rest0 (outer := outer) (H := H) (E := E) T t_take t_alike i_Sheet i_Web c_web_of m_eqW m_edges m_lenW l_order m_cols l_body l_head l_foot gd hr

  have GB : FnOk P w K mg base CX0 1 fB fdB ["_law_script"] (spBag K) := ok_bag T FB
  refine law_fn (i := 1) (s1 := (defBody s_law).getD 0 (.Pass ⟨0, 0, 0, 0⟩)) (rest := (defBody s_law).drop 1) FL sc_law rfl (by decide) (by decide) fun cdv A outer s H E gd hr => ⟨?_, ?_⟩
  · exact ps_set (i := 1) sc_law.nd rfl (Or.inl rfl) (pe_call GB (hr.mono (by decide)) (by rfl) mB FB.kp bB .nil pass0 (pa_cons (pv 0) pa_nil))
  · exact law_rest T gd hr

end K31
open PySem PySem.W PySem.Calls PyProof.Rows
set_option maxHeartbeats 0 in
theorem PySem.Challenge.cw_longsheet_k31_webs_of_sheets_holds : PySem.Challenge.rw_longsheet_k31_webs_of_sheets.Holds := by
  w_on; o_law
  refine HandSHeadRun.head_any (r := OpenLaw.row PySem.Challenge.rw_longsheet_k31_webs_of_sheets) (q := view (OpenLaw.row PySem.Challenge.rw_longsheet_k31_webs_of_sheets).prog [55]) (H := K31.hk) (ob := K31.ob) (M := 6000) (loose := K31.loose) (d := HandSHeadRun.topDef (OpenLaw.row PySem.Challenge.rw_longsheet_k31_webs_of_sheets).prog 55) (kwd := []) K31.ob_eq
    (by kernel_rfl) (fun s => by kernel_rfl) K31.run (by kernel_rfl) (by kernel_rfl) (by kernel_rfl) (by rfl) (by first | assumption | decide +kernel) (by decide +kernel) ⟨rfl, rfl, rfl, rfl, rfl, by decide +kernel⟩ ?hw ?hc
  case hw => w_witness2
  case hc =>
    refine DL.walk_ofG (l := PySem.Challenge.rw_longsheet_k31_webs_of_sheets) (n := 63) (k := 100) (x := "_law_script") rfl (by decide) (by kernel_rfl) ⟨rfl, by decide, by decide⟩ ?F
    intro w mg fa h Y G hmg0
    obtain ⟨K, KX, c⟩ := Y
    have hmg : mg ("law" : PySem.Str) = some (.ref fa) := by
      have e : (HandSHeadRun.topDef (OpenLaw.row PySem.Challenge.rw_longsheet_k31_webs_of_sheets).prog 55).name = ("law" : PySem.Str) := by kernel_rfl
      rw [← e]
      exact hmg0
    obtain ⟨fd, hb, hF⟩ := K31.facts (P := (PySem.Challenge.rw_longsheet_k31_webs_of_sheets).prog) (w := w) KX G hmg c
    exact ⟨K, fd, DL.spLaw K, KX, hb, fun H a ns hl _ hS => ⟨a, ns, rfl, hS, hl, fun _ => rfl⟩, hF⟩
