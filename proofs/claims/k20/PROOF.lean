import PyProof.Rows.All
import Wide.All
import OpenK.AllK
import Wide.FinOn
import HandS.ForMost
import HandS.HeadEnd
import HandS.IsInst
import HandS.Flow
import HandS.Lambda
import HandS.HeadHook4
import HandS.TupAny
import HandS.TupLen
import HandS.Exc
import PyProof.StrLawsRepr
import HandS.Defaults
import HandS.Head0
import HandS.Head1
import HandS.Head2
import HandS.HeadHook1
import HandS.HeadHook2
import Lean
import KE.KStar
import HandS.Style
import HandS.Zip
import HandS.ExcInit
import HandS.ExcField
import HandS.ExcOwn
import HandS.WordsExc
import HandS.TryMany
import HandS.More
import HandS.Conv
import HandS.Deep
import HandS.Dict
import HandS.OwnEq
import HandS.DictComp
import HandS.Iter
import KE.SortData
import KE.SortKeyHeap
import HandS.Keys
import HandS.SortKw
import KE.GoesComp
import KE.GoesMore
import KE.KDictKeyed
import KE.KeyNested
import KE.KDictList
import KE.KDictCopyH
import HandS.Spec
import KE.GoesZip
import KE.GoesEnum
import KE.KIndexOf
import HandS.DeepEq
import HandS.EndTab
import KE.KOpsOwn
import KE.KIsAll
import KE.DataMinKey
import KE.LtData
import KE.KMinKey
import PyProof.P3In
import PyProof.NeKinds
import KE.KDictSum
import HandS.ExcValue
import HandS.TupSets
import KE.KDictPairs
import HandS.SetFor
import HandS.Strs
import KE.KDictDisplayH
import HandS.DictTup
import PyProof.LongRange
import PyProof.ListRange
import KE.DatumOrd
import PyProof.Rows.Range3
import PyProof.Rows.StrInSeq3
import PySem.Challenge.RW_longsheet_k20_sheets_told
set_option Elab.async false
set_option linter.all false
set_option maxRecDepth 100000
set_option maxHeartbeats 2000000
namespace DL
open PySem PySem.Spec PyProof.Rows L2
abbrev Ng (A : Around) : Prop := A.guards = some []
structure FnG (P : Program) (w : World) (K : PySem.W.Frag) (mg : Str → Option Value) (base : Heap) (k : Nat)
    (f : Addr) (fd : FuncData) (ps : List Str) (sp : Sp) : Prop where
  len : ∀ vs H Q E, sp vs H Q E → vs.length = ps.length
  run : ∀ (A : Around) (outer : List Env) (s : Shared) (H : Hp) (args : Args) (us : List Value) (vs : List V) (Q : VK) (E : XK),
    Ng A → Room k A → Env0 P w K mg base A outer s H → BindsTo s fd args (ps.zip us) → Vals vs us → sp vs H Q E →
    codeAny (model P w) A (.call (.ref f) args) (CR CX0 outer P w H s Q E) s
section
variable {P : Program} {w : World} {K : PySem.W.Frag} {mg : Str → Option Value} {base : Heap}
theorem FnG.of {k : Nat} {f : Addr} {fd : FuncData} {ps : List Str} {sp : Sp} (F : FnOk P w K mg base CX0 k f fd ps sp) : FnG P w K mg base k f fd ps sp :=
  ⟨F.len, fun A outer s H args us vs Q E _ => F.run A outer s H args us vs Q E⟩
theorem FnG.mono {j k : Nat} {f : Addr} {fd : FuncData} {ps : List Str} {sp : Sp} (F : FnG P w K mg base j f fd ps sp) (h : j ≤ k) : FnG P w K mg base k f fd ps sp :=
  ⟨F.len, fun A outer s H args us vs Q E hg hr => F.run A outer s H args us vs Q E hg (hr.mono h)⟩
theorem FnG.imp {k : Nat} {f : Addr} {fd : FuncData} {ps : List Str} {sp sp' : Sp} (F : FnG P w K mg base k f fd ps sp)
    (h : ∀ vs H Q E, sp' vs H Q E → sp vs H Q E) : FnG P w K mg base k f fd ps sp' :=
  ⟨fun vs H Q E q => F.len vs H Q E (h vs H Q E q), fun A outer s H args us vs Q E g r e b v q => F.run A outer s H args us vs Q E g r e b v (h vs H Q E q)⟩
theorem fun_okG {x qual : Str} {st : Stmt} {f : Addr} {fd : FuncData} {N ps : List Str} {k : Nat} {sp : Sp} (F : Fun K x qual st f fd) (S : FnScope N ps (defScope st))
    (len : ∀ vs H Q E, sp vs H Q E → vs.length = ps.length)
    (hb : ∀ (cdv : Value) (A : Around) (outer : List Env) (s : Shared) (H : Hp) (vs : List V) (Q : VK) (E : XK), Ng A → Room k (A.deeper (envOfC qual (defScope st) s.heap.objs.size f cdv)) → sp vs H Q E →
      ∃ t, PSs (cxOf CX0 P w K mg base N qual (defScope st) f cdv A outer s H E).nox (defBody st) t ∧ t { nx := fun _ H2 => Q .non H2, rt := Q } (start N vs) H) :
    FnG P w K mg base (k + 1) f fd ps sp := by
  obtain ⟨oc, od, kV, doc, pm, an, cdv, ct, osl, rfl, lk, hcd⟩ := F.ex
  constructor
  · exact len
  intro A outer s H args us vs Q E gd rm en bd rel want
  have el := len _ _ _ _ want
  have keepB : ∀ (b : Addr) (o : Obj), base.get? b = some o → s.heap.get? b = some o := fun b o e => (en.bs b o e).1
  have inK : K.In s.heap := en.mod.kin.keeps keepB
  have noL : s.heap.NoLimit := en.mod.nolimit.keeps keepB
  have kinds : ∀ y ∈ ps.zip us, (defScope st).names.lookup y.1 = some .local ∨
      ((defScope st).names.lookup y.1 = some .cell ∧ ((cellsFrom (s.heap.objs.size + 1) (defScope st).names []).lookup y.1).isSome = true) := by
    rintro ⟨n, v⟩ hy
    cases S.par n (List.of_mem_zip hy).1 with
    | inl q => exact .inl q
    | inr q => exact .inr ⟨q, PySem.W.cellsFrom_some _ _ _ (.inl q)⟩
  refine codeAny_call_function rm.depth (inK _ _ lk) rfl S.co S.gen rfl (PySem.W.codeRec_of inK hcd)
    (bd _ _ _ _ (wpAny_newFunctionEnv_cells S.kind kinds fun env he s1 x => ?_))
  cases he
  refine ⟨noL.keeps x.toInCall.keep, codeAny_func ?_⟩
  obtain ⟨t, ht, hq⟩ := hb cdv A outer s H vs Q E gd (rm.deeper _) want
  have I0 := inv_start (CX := CX0) (qual := qual) (f := f) (cd := cdv) (E := E) S rm.hd en el rel x
  refine wpAny_mono (ht.nox.run [] s1 _ H _ I0 hq) (fun fl s' hs => ?_) (fun _ _ hs => hs)
  cases fl with
  | next =>
    obtain ⟨σ2, H2, J, q⟩ := hs
    exact ⟨V.non, H2, J.os, J.bare, J.base, J.hok, rfl, q⟩
  | ret u =>
    obtain ⟨v, σ2, H2, J, rv, q⟩ := hs
    exact ⟨v, H2, J.os, J.bare, J.base, J.hok, rv, q⟩
  | brk => obtain ⟨_, _, _, q⟩ := hs; exact q.elim
  | cont => obtain ⟨_, _, _, q⟩ := hs; exact q.elim
end
section
variable {X : Cx} {k : Nat} {f : Addr} {fd : FuncData} {ps : List Str} {sp : Sp} {x : Str} {ds : List Value} {dvs : List V} {e : Expr} {es : List Expr} {t : TA} {p pos : Pos}
theorem run_fnG {pins : List (Addr × Obj)} {σ : L2.St} {H : Hp} {s : Shared} {Q : VK} {us : List Value} {vs : List V} (F : FnG X.prog X.w X.K X.mg X.base k f fd ps sp)
    (hgd : Ng X.A) (hr : Room k X.A) (hb : Binds X.K fd ps ds) (hd : Vals dvs ds) (I : Inv X pins σ H s) (r : Vals vs us) (h : sp (vs ++ dvs) H Q E0) :
    wpAny (model X.prog X.w) X.A (call (.ref f) us) (EP X pins σ Q) X.xe s := by
  have rr : Vals (vs ++ dvs) (us ++ ds) := r.append hd
  have ll : (us ++ ds).length = ps.length := rr.length.symm.trans (F.len _ _ _ _ h)
  have z := F.run X.A X.stack s H ⟨us, []⟩ (us ++ ds) (vs ++ dvs) Q E0 hgd hr I.env0 (hb s us I.kIn ll) rr h
  refine wpAny_call (codeAny_mono z fun res s' hq => ?_)
  rcases res with er | fl
  · exact False.elim hq
  · cases fl with
    | ret u => exact I.after hq
    | next => exact hq.elim
    | brk => exact hq.elim
    | cont => exact hq.elim
theorem pe_callG (F : FnG X.prog X.w X.K X.mg X.base k f fd ps sp) (hgd : Ng X.A) (hr : Room k X.A) (hg : Gl X x) (hm : X.mg x = some (.ref f)) (hk : PySem.W.keepIn X.K (.ref f) = true)
    (hb : Binds X.K fd ps ds) (hd : Vals dvs ds) (ha : PA X (e :: es) t) (hdb : (x == ("__debug__" : Str)) = false := by decide)
    (he : starEach (e :: es) X.env = (false, eval e X.env) :: starEach es X.env := by rfl) (hpl : (backTo pos (starEach es X.env)).any (·.1) = false := by rfl) :
    PE X (.Call (.Name x p) (e :: es) [] pos) (tCall sp dvs E0 t) :=
  ⟨fun pins s σ H Q I h => wpAny_Call_Name_kw (ld_glob I hg hm (PySem.W.callWith_K (h₀ := X.base) I.ok.mod.kin hk
    (thn (ha.run pos pins s σ H _ I h) fun _ _ ⟨_, _, I1, r, q⟩ => ⟨I1.kIn, run_fnG F hgd hr hb hd I1 r q⟩) he hpl) hdb)⟩
end
end DL
set_option Elab.async false
set_option linter.all false
set_option maxRecDepth 100000
set_option maxHeartbeats 2000000
namespace DL
open PySem PySem.Spec PyProof.Rows L2
inductive D where
  | non | bl (b : Bool) | int (i : Int) | str (x : Str)
  | lst (xs : List D) | tup (xs : List D)
  | dK (ks : List Key) (vs : List D)
  | dT (ks : List (List Key)) (vs : List D)
  | dL (ks : List Key) (vs : List D)
  | ins (C : Addr) (ns : List Str) (vs : List D)
def SqD (K : PySem.W.Frag) (G : Hp) (a : Addr) (xs : List V) : Prop := G a = some (.tup xs) ∨ (SqT K (fun _ => none) a xs ∧ ∀ x ∈ xs, ∃ s, x = V.str s)
mutual
inductive Dd (K : PySem.W.Frag) (G : Hp) : V → D → Prop
  | non : Dd K G .non .non
  | bl (b : Bool) : Dd K G (.bl b) (.bl b)
  | int (i : Int) : Dd K G (.int i) (.int i)
  | str (x : Str) : Dd K G (.str x) (.str x)
  | lst {a : Addr} {xs : List V} {ds : List D} : G a = some (.lst xs) → DdA K G xs ds → Dd K G (.ref a) (.lst ds)
  | tup {a : Addr} {xs : List V} {ds : List D} : SqD K G a xs → DdA K G xs ds → Dd K G (.ref a) (.tup ds)
  | dK {a : Addr} {ks : List Key} {xs : List V} {ds : List D} : ks.length = xs.length → Rd G a (.dK (ks.zip xs)) → DdA K G xs ds → Dd K G (.ref a) (.dK ks ds)
  | dT {a : Addr} {o : Obj} {ks : List (List Key)} {xs : List V} {ds : List D} : ks.length = xs.length → G a = some (.frz o (.dT (ks.zip xs))) → DdA K G xs ds → Dd K G (.ref a) (.dT ks ds)
  | dL {a : Addr} {o : Obj} {ks : List Key} {xs : List V} {ds : List D} : ks.length = xs.length → G a = some (.frz o (.dK (ks.zip xs))) → DdA K G xs ds → Dd K G (.ref a) (.dL ks ds)
  | ins {a C dx : Addr} {ns : List Str} {xs : List V} {ds : List D} : ns.length = xs.length → G a = some (.ins C dx (ns.zip xs)) → DdA K G xs ds → Dd K G (.ref a) (.ins C ns ds)
inductive DdA (K : PySem.W.Frag) (G : Hp) : List V → List D → Prop
  | nil : DdA K G [] []
  | cons {v : V} {vs : List V} {d : D} {ds : List D} : Dd K G v d → DdA K G vs ds → DdA K G (v :: vs) (d :: ds)
end
theorem sameT {K : PySem.W.Frag} {H H' : Hp} {a : Addr} {xs : List V} (e : Same H H') (h : SqD K H a xs) : SqT K H' a xs := by
  rcases h with h | ⟨(h | ⟨o, h⟩) | h, _⟩
  · exact .inl (.inl (e _ _ h))
  · cases h
  · cases h
  · exact .inr h
theorem rdS {H H' : Hp} {a : Addr} {u : HO} (e : Same H H') (h : Rd H a u) : Rd H' a u := h.imp (e _ _) fun ⟨o, z⟩ => ⟨o, e _ _ z⟩
theorem sameD {K : PySem.W.Frag} {H H' : Hp} {a : Addr} {xs : List V} (e : Same H H') (h : SqD K H a xs) : SqD K H' a xs := h.imp (e _ _) id
section
variable {K : PySem.W.Frag} {G G' : Hp}
mutual
theorem Dd.mono (e : Same G G') : ∀ (d : D) (v : V), Dd K G v d → Dd K G' v d
  | .non, _, h => by cases h; exact .non
  | .bl b, _, h => by cases h; exact .bl b
  | .int i, _, h => by cases h; exact .int i
  | .str x, _, h => by cases h; exact .str x
  | .lst ds, _, h => by cases h with | lst h1 h2 => exact .lst (e _ _ h1) (DdA.mono e ds _ h2)
  | .tup ds, _, h => by cases h with | tup h1 h2 => exact .tup (sameD e h1) (DdA.mono e ds _ h2)
  | .dK ks ds, _, h => by cases h with | dK h0 h1 h2 => exact .dK h0 (rdS e h1) (DdA.mono e ds _ h2)
  | .dT ks ds, _, h => by cases h with | dT h0 h1 h2 => exact .dT h0 (e _ _ h1) (DdA.mono e ds _ h2)
  | .dL ks ds, _, h => by cases h with | dL h0 h1 h2 => exact .dL h0 (e _ _ h1) (DdA.mono e ds _ h2)
  | .ins C ns ds, _, h => by cases h with | ins h0 h1 h2 => exact .ins h0 (e _ _ h1) (DdA.mono e ds _ h2)
theorem DdA.mono (e : Same G G') : ∀ (ds : List D) (vs : List V), DdA K G vs ds → DdA K G' vs ds
  | [], _, h => by cases h; exact .nil
  | d :: ds, _, h => by cases h with | cons h1 h2 => exact .cons (Dd.mono e d _ h1) (DdA.mono e ds _ h2)
end
theorem DdA.len : ∀ {vs : List V} {ds : List D}, DdA K G vs ds → vs.length = ds.length
  | _, [], h => by cases h; rfl
  | _, d :: ds, h => by cases h with | cons h1 h2 => simp [DdA.len h2]
theorem DdA.get : ∀ {vs : List V} {ds : List D} {i : Nat} {d : D}, DdA K G vs ds → ds[i]? = some d → ∃ v, vs[i]? = some v ∧ Dd K G v d
  | _, [], _, _, _, e => by simp at e
  | _, d :: ds, 0, _, h, e => by cases h with | cons h1 h2 => simp at e; subst e; exact ⟨_, rfl, h1⟩
  | _, d :: ds, i + 1, _, h, e => by cases h with | cons h1 h2 => exact DdA.get (i := i) h2 (by simpa using e)
theorem DdA.append : ∀ {vs ws : List V} {ds es : List D}, DdA K G vs ds → DdA K G ws es → DdA K G (vs ++ ws) (ds ++ es)
  | _, _, [], _, h, h' => by cases h; exact h'
  | _, _, d :: ds, _, h, h' => by cases h with | cons h1 h2 => exact .cons h1 (DdA.append h2 h')
theorem DdA.one {v : V} {d : D} (h : Dd K G v d) : DdA K G [v] [d] := .cons h .nil
theorem DdA.set : ∀ {vs : List V} {ds : List D} (i : Nat) {v : V} {d : D}, DdA K G vs ds → Dd K G v d → DdA K G (vs.set i v) (ds.set i d)
  | _, [], _, _, _, h, _ => by cases h; exact .nil
  | _, d :: ds, 0, _, _, h, h' => by cases h with | cons h1 h2 => exact .cons h' h2
  | _, d :: ds, i + 1, _, _, h, h' => by cases h with | cons h1 h2 => exact .cons h1 (DdA.set i h2 h')
theorem DdA.take : ∀ {vs : List V} {ds : List D} (n : Nat), DdA K G vs ds → DdA K G (vs.take n) (ds.take n)
  | _, [], _, h => by cases h; simp; exact .nil
  | _, d :: ds, 0, h => by simp; exact .nil
  | _, d :: ds, n + 1, h => by cases h with | cons h1 h2 => exact .cons h1 (DdA.take n h2)
theorem DdA.drop : ∀ {vs : List V} {ds : List D} (n : Nat), DdA K G vs ds → DdA K G (vs.drop n) (ds.drop n)
  | _, [], _, h => by cases h; simp; exact .nil
  | _, d :: ds, 0, h => h
  | _, d :: ds, n + 1, h => by cases h with | cons h1 h2 => exact DdA.drop n h2
theorem DdA.map {α : Type} {f : α → V} {g : α → D} (h : ∀ x, Dd K G (f x) (g x)) : ∀ l : List α, DdA K G (l.map f) (l.map g)
  | [] => .nil
  | x :: l => .cons (h x) (DdA.map h l)
end
inductive NSh where | l | k (ks : List Key) | t (ks : List (List Key))
def NSh.obj : NSh → List V → HO
  | .l, vs => .lst vs
  | .k ks, vs => .dK (ks.zip vs)
  | .t ks, vs => .dT (ks.zip vs)
inductive Sl where
  | hd (x : Addr) (sh : NSh) (bs : List Addr) (dss : List (List D))
  | no | dt (d : D) | ol (ds : List D) | oK (ks : List Key) (vs : List D) | oT (ks : List (List Key)) (vs : List D) | oI (x C : Addr) (ns : List Str) (vs : List D) | oL (x : Addr) (ds : List D) | bag | cnt | xcp (a dd C : Addr) (ns : List Str) (vs : List D) | fn (f c : Addr) (q : Str) (σm : L2.St) (cap : List (Option D)) | tb (P : Addr) (q : Str)
def Sl.isOwn : Sl → Bool
  | .ol _ => true
  | .oK _ _ => true
  | .oT _ _ => true
  | .oI _ _ _ _ => true
  | .oL _ _ => true
  | _ => false
inductive Cell where | bag (c : Addr) | cnt | tab (q : Str)
def tabDs : List (He.Defn × Str) := [(("law", none), "law"), (("_law_bodies", none), "_law_bodies"), (("_law_right", none), "_law_right"), (("_law_sheet_right", none), "_law_sheet_right"), (("Spans", some "least"), "Spans.least"), (("_law_none_back", none), "_law_none_back"),
  (("_law_done", none), "_law_done"), (("_law_step", none), "_law_step"), (("_law_shows", none), "_law_shows"), (("_law_copies_right", none), "_law_copies_right"), (("_law_wrong_right", none), "_law_wrong_right"), (("_law_doors_right", none), "_law_doors_right")]
def TbK (K : PySem.W.Frag) : List (Addr × Str) := (tabDs.filter fun p => PySem.W.codeHdIn K (He.cT K p.1).1 (He.cT K p.1).2).map fun p => ((He.cT K p.1).2, (p.2 ++ ".<locals>." ++ "<lambda>" : Str))
structure Bg (K : PySem.W.Frag) where
  L : List (Addr × Cell)
  tabs : ∀ P q, (P, q) ∈ TbK K → (P, Cell.tab q) ∈ L ∧ ∀ c, (P, c) ∈ L → c = .tab q
instance {K : PySem.W.Frag} : Membership (Addr × Cell) (Bg K) := ⟨fun B x => x ∈ B.L⟩
def NotB {K : PySem.W.Frag} (B : Bg K) (a : Addr) : Prop := ∀ c, (a, c) ∉ B
def Bg.cnt {K : PySem.W.Frag} (B : Bg K) (q : Addr) (n : NotB B q) : Bg K := ⟨(q, .cnt) :: B.L, fun P x h => ⟨List.mem_cons_of_mem _ (B.tabs P x h).1, fun c hc => (List.mem_cons.mp hc).elim (fun z => by
  cases z
  exact absurd (B.tabs _ _ h).1 (n _)) fun z => (B.tabs P x h).2 c z⟩⟩
theorem Bg.cnt_in {K : PySem.W.Frag} {B : Bg K} {q : Addr} {n : NotB B q} {x : Addr × Cell} : x ∈ B.cnt q n ↔ x = (q, .cnt) ∨ x ∈ B := List.mem_cons
def BagOk (H G : Hp) (b : Addr) : Cell → Prop
  | .bag c => ∃ (x m i : Int) (ns : List Int), H b = some (.lst [.int x, .int m, .int i, .ref c]) ∧ G b = none ∧ Rd G c (.lst (ns.map V.int)) ∧ 0 ≤ x ∧ (∀ n ∈ ns, (0 : Int) ≤ n) ∧ 0 ≤ m ∧ m < 2147483647 ∧ 0 ≤ i ∧ ns.length ≤ 63
  | .cnt => ∃ n : Int, H b = some (.lst [.int n]) ∧ G b = none
  | .tab q => (∃ ps : Array Value, H b = some (.tbl ps) ∧ TriplesOk ps.toList ∧ ∀ (pos : Pos) (cv : Value), codeAmong pos ps.toList = some cv → ∃ c, cv = .ref c ∧ G c = some (LamX.CodeO c q)) ∧ G b = none
def OwnAt (K : PySem.W.Frag) (H G : Hp) (a : Addr) : Sl → Prop
  | .ol ds => ∃ vs, H a = some (.lst vs) ∧ DdA K G vs ds
  | .oK ks ds => ∃ vs, ks.length = vs.length ∧ H a = some (.dK (ks.zip vs)) ∧ DdA K G vs ds
  | .oT ks ds => ∃ vs, ks.length = vs.length ∧ H a = some (.dT (ks.zip vs)) ∧ DdA K G vs ds
  | .oI x C ns ds => a = x ∧ ∃ dx vs, ns.length = vs.length ∧ H a = some (.ins C dx (ns.zip vs)) ∧ DdA K G vs ds
  | .oL x ds => a = x ∧ ∃ vs, H a = some (.lst vs) ∧ DdA K G vs ds
  | _ => False
def ValOk (K : PySem.W.Frag) (B : Bg K) (H G : Hp) (v : V) : Sl → Prop
  | .no => True
  | .dt d => Dd K G v d
  | .bag => ∃ b c, (b, Cell.bag c) ∈ B ∧ v = .ref b
  | .cnt => ∃ b, (b, Cell.cnt) ∈ B ∧ v = .ref b
  | .xcp a dd _ ns ds => v = .ref a ∧ ∃ xs, ns.length = xs.length ∧ G dd = some (.xd (ns.zip xs)) ∧ DdA K G xs ds
  | .hd _ _ _ _ => False
  | .fn f c q σm cap => v = .ref f ∧ G c = some (LamX.CodeO c q) ∧ σm.length = cap.length ∧ ∀ (i : Nat) (d : D), cap[i]? = some (some d) → ∃ u, σm[i]? = some (some u) ∧ Dd K G u d
  | .tb P q => (P, Cell.tab q) ∈ B ∧ ∀ c, (P, c) ∈ B → c = .tab q
  | s => ∃ a, v = .ref a ∧ G a = none ∧ OwnAt K H G a s
def Sl.dead : Sl → Bool
  | .no => true
  | .hd _ _ _ _ => true
  | _ => false
def Sl.isHd : Sl → Bool
  | .hd _ _ _ _ => true
  | _ => false
structure HdIn (K : PySem.W.Frag) (B : Bg K) (H0 G : Hp) (x : Addr) (sh : NSh) (bs : List Addr) (dss : List (List D)) : Prop where
  nd : bs.Nodup
  nx : x ∉ bs
  len : bs.length = dss.length
  out : H0 x = some (sh.obj (bs.map V.ref)) ∧ NotB B x ∧ G x = none
  inn : ∀ (k : Nat) (b : Addr), bs[k]? = some b → NotB B b ∧ G b = none ∧ ∃ vs ds, dss[k]? = some ds ∧ H0 b = some (.lst vs) ∧ DdA K G vs ds
theorem none_of {G : Hp} {a : Addr} (h : ∀ o, G a ≠ some o) : G a = none := by
  cases e : G a with
  | none => rfl
  | some o => exact absurd e (h o)
def N0 : Option HO → Prop
  | none => True
  | some (.tup _) => True
  | _ => False
theorem N0.of {o : Option HO} (h : o = none) : N0 o := by rw [h]; trivial
theorem HdIn.up {K : PySem.W.Frag} {B : Bg K} {H0 G G' : Hp} {x : Addr} {sh : NSh} {bs : List Addr} {dss : List (List D)} (h : HdIn K B H0 G x sh bs dss) (s : Same G G') (n : ∀ a o, G' a = some o → (∃ o', G a = some o') ∨ N0 (H0 a)) : HdIn K B H0 G' x sh bs dss := by
  refine ⟨h.nd, h.nx, h.len, ⟨h.out.1, h.out.2.1, none_of fun o e => ?_⟩, fun k b e => ?_⟩
  · rcases n _ _ e with ⟨o', z⟩ | z
    · rw [h.out.2.2] at z; cases z
    · rw [h.out.1] at z; cases sh <;> exact z
  · obtain ⟨h1, h2, vs, ds, h3, h4, h5⟩ := h.inn k b e
    refine ⟨h1, none_of fun o e => ?_, vs, ds, h3, h4, DdA.mono s _ _ h5⟩
    rcases n _ _ e with ⟨o', z⟩ | z
    · rw [h2] at z; cases z
    · rw [h4] at z; exact z
theorem HdIn.base {K : PySem.W.Frag} {B : Bg K} {H0 H G : Hp} {x : Addr} {sh : NSh} {bs : List Addr} {dss : List (List D)} (h : HdIn K B H0 G x sh bs dss) (e : ∀ a o, H0 a = some o → NotB B a → H a = some o) : HdIn K B H G x sh bs dss :=
  ⟨h.nd, h.nx, h.len, ⟨e _ _ h.out.1 h.out.2.1, h.out.2⟩, fun k b eb => by
    obtain ⟨h1, h2, vs, ds, h3, h4, h5⟩ := h.inn k b eb
    exact ⟨h1, h2, vs, ds, h3, e _ _ h4 h1, h5⟩⟩
def HdSl (K : PySem.W.Frag) (B : Bg K) (H0 : Hp) (σ : L2.St) (δ : List Sl) (G : Hp) : Prop := ∀ (i : Nat) (x : Addr) (sh : NSh) (bs : List Addr) (dss : List (List D)), δ[i]? = some (.hd x sh bs dss) → σ[i]? = some (some (.ref x)) ∧ HdIn K B H0 G x sh bs dss
theorem HdSl.up {K : PySem.W.Frag} {B : Bg K} {H0 G G' : Hp} {σ : L2.St} {δ : List Sl} (h : HdSl K B H0 σ δ G) (s : Same G G') (n : ∀ a o, G' a = some o → (∃ o', G a = some o') ∨ N0 (H0 a)) : HdSl K B H0 σ δ G' := fun i x sh bs dss e => ⟨(h i x sh bs dss e).1, (h i x sh bs dss e).2.up s n⟩
theorem HdSl.set {K : PySem.W.Frag} {B : Bg K} {H0 G : Hp} {σ : L2.St} {δ : List Sl} (h : HdSl K B H0 σ δ G) (i : Nat) {s : Sl} (ns : s.isHd = false) (v : Option V) : HdSl K B H0 (σ.set i v) (δ.set i s) G := fun j x sh bs dss e => by
  by_cases hj : i = j
  · subst hj
    by_cases hl : i < δ.length
    · rw [List.getElem?_set_self hl] at e; cases e; cases ns
    · rw [List.getElem?_eq_none (by simpa using hl)] at e; cases e
  · rw [List.getElem?_set_ne hj] at e ⊢; exact h j x sh bs dss e
theorem HdSl.setD {K : PySem.W.Frag} {B : Bg K} {H0 G : Hp} {σ : L2.St} {δ : List Sl} (h : HdSl K B H0 σ δ G) (i : Nat) {s : Sl} (ns : s.isHd = false) : HdSl K B H0 σ (δ.set i s) G := fun j x sh bs dss e => by
  by_cases hj : i = j
  · subst hj
    by_cases hl : i < δ.length
    · rw [List.getElem?_set_self hl] at e; cases e; cases ns
    · rw [List.getElem?_eq_none (by simpa using hl)] at e; cases e
  · rw [List.getElem?_set_ne hj] at e; exact h j x sh bs dss e
theorem HdSl.none {K : PySem.W.Frag} {B : Bg K} {H0 G : Hp} {σ : L2.St} {δ : List Sl} (h : ∀ (i : Nat) (s : Sl), δ[i]? = some s → s.isHd = false) : HdSl K B H0 σ δ G := fun i x sh bs dss e => by
  have z := h i _ e
  cases z
theorem ValOk.nohd {K : PySem.W.Frag} {B : Bg K} {H G : Hp} {v : V} {s : Sl} (h : ValOk K B H G v s) : s.isHd = false := by cases s <;> first | rfl | exact h.elim
def Own (σ : L2.St) (δ : List Sl) (i : Nat) (a : Addr) : Prop := σ[i]? = some (some (.ref a)) ∧ ∃ s, δ[i]? = some s ∧ s.isOwn = true
def SzO : HO → Prop
  | .lst xs => xs.length ≤ sizeLine
  | .tup xs => xs.length ≤ sizeLine
  | .dK kvs => kvs.length ≤ sizeLine
  | .dT kvs => kvs.length ≤ sizeLine
  | .frz _ u => SzO u
  | _ => True
def HSz (H : Hp) : Prop := ∀ a o, H a = some o → SzO o
theorem HSz.upd {H : Hp} {p : Addr} {o : HO} (h : HSz H) (z : SzO o) : HSz (upd H p o) := fun b x e => by
  by_cases hb : b = p
  · subst hb; rw [upd_same] at e; cases e; exact z
  · rw [upd_ne hb] at e; exact h _ _ e
theorem HSz.of {P : Program} {w : World} {H : Hp} {h : Heap} (ok : HOk P w H h) : HSz H := fun a o e => by
  have z := ok a o e
  clear e
  induction o with
  | lst xs => exact z.1
  | tup xs => exact z.1
  | dK xs => exact z.1
  | dT xs => exact z.1
  | frz ob u ih => exact ih z.2
  | _ => trivial
structure Rel (K : PySem.W.Frag) (B : Bg K) (H0 G0 : Hp) (H : Hp) (σ : L2.St) (δ : List Sl) (G : Hp) : Prop where
  sub : Same G H
  g0 : Same G0 G
  ent : ∀ a o, H0 a = some o → NotB B a → H a = some o
  len : σ.length = δ.length
  sl : ∀ (i : Nat) (s : Sl), δ[i]? = some s → s.dead = true ∨ ∃ v, σ[i]? = some (some v) ∧ ValOk K B H G v s
  sep : ∀ i j a, Own σ δ i a → Own σ δ j a → i = j
  own : ∀ i a, Own σ δ i a → H0 a = none ∧ G a = none ∧ NotB B a
  bag : ∀ b c, (b, c) ∈ B → BagOk H G b c
  gn : ∀ a o, G a = some o → G0 a = some o ∨ N0 (H0 a)
  sz : HSz H
  hd : HdSl K B H0 σ δ G
def ResOk (K : PySem.W.Frag) (B : Bg K) (H0 : Hp) (H : Hp) (σ : L2.St) (δ : List Sl) (G : Hp) (v : V) (r : Sl) : Prop :=
  ValOk K B H G v r ∧ r ≠ .no ∧ (r.isOwn = true → ∀ a, v = .ref a → H0 a = none ∧ NotB B a ∧ ∀ i, ¬ Own σ δ i a)
def Fra {K : PySem.W.Frag} (B : Bg K) (H H' : Hp) : Prop := ∀ a o, H a = some o → NotB B a → H' a = some o
theorem Fra.refl {K : PySem.W.Frag} (B : Bg K) (H : Hp) : Fra B H H := fun _ _ e _ => e
theorem Fra.trans {K : PySem.W.Frag} {B : Bg K} {H H1 H2 : Hp} (x : Fra B H H1) (y : Fra B H1 H2) : Fra B H H2 := fun a o e n => y a o (x a o e n) n
theorem Fra.upd {K : PySem.W.Frag} {B : Bg K} {H : Hp} {p : Addr} {o : HO} (hp : H p = none) : Fra B H (upd H p o) := fun b x e _ => by rw [upd_ne (ne_of_none e hp)]; exact e
abbrev QD := Sl → List Sl → Prop
abbrev TD := List Sl → QD → Prop
def MonoD (t : TD) : Prop := ∀ δ (Q Q' : QD), t δ Q → (∀ r δ', Q r δ' → Q' r δ') → t δ Q'
def tyE (K : PySem.W.Frag) (t : TD) : TE := fun σ H Q => ∃ B H0 G0 δ G, Rel K B H0 G0 H σ δ G ∧ t δ (fun r δ' => ∀ v H' G', Rel K B H0 G0 H' σ δ' G' → Same G G' → Fra B H H' → ResOk K B H0 H' σ δ' G' v r → Q v H')
structure PD (X : Cx) (e : Expr) (t : TD) : Prop where
  pe : PE X e (tyE X.K t)
  mono : MonoD t
theorem PE.weak {X : Cx} {e : Expr} {t t' : TE} (h : PE X e t) (w : ∀ σ H Q, t' σ H Q → t σ H Q) : PE X e t' := ⟨fun pins s σ H Q I q => h.run pins s σ H Q I (w σ H Q q)⟩
theorem PT.weak {X : Cx} {e : Expr} {t t' : TT} (h : PT X e t) (w : ∀ σ H Q, t' σ H Q → t σ H Q) : PT X e t' := ⟨fun pins s σ H Q I q => h.run pins s σ H Q I (w σ H Q q)⟩
section
variable {K : PySem.W.Frag} {B : Bg K} {H0 G0 H H' G G' : Hp} {σ : L2.St} {δ : List Sl}
theorem BagOk.up {b : Addr} {c : Cell} (h : BagOk H G b c) (e : H' b = H b) (s : Same G G') (n : G' b = none) : BagOk H' G' b c := by
  cases c with
  | bag c =>
    obtain ⟨x, m, i, ns, h1, h2, h3, h4⟩ := h
    exact ⟨x, m, i, ns, e.trans h1, n, rdS s h3, h4⟩
  | cnt =>
    obtain ⟨k, h1, h2⟩ := h
    exact ⟨k, e.trans h1, n⟩
  | tab q =>
    obtain ⟨⟨ps, h1, h2, h3⟩, _⟩ := h
    exact ⟨⟨ps, e.trans h1, h2, fun pos cv z => by
      obtain ⟨c, e1, e2⟩ := h3 pos cv z
      exact ⟨c, e1, s _ _ e2⟩⟩, n⟩
theorem BagOk.there {b : Addr} {c : Cell} (h : BagOk H G b c) : ∃ o, H b = some o := by
  cases c with
  | bag c => obtain ⟨x, m, i, ns, h1, _⟩ := h; exact ⟨_, h1⟩
  | cnt => obtain ⟨k, h1, _⟩ := h; exact ⟨_, h1⟩
  | tab q => obtain ⟨⟨ps, h1, _⟩, _⟩ := h; exact ⟨_, h1⟩
theorem BagOk.gn {b : Addr} {c : Cell} (h : BagOk H G b c) : G b = none := by
  cases c with
  | bag c => obtain ⟨x, m, i, ns, h1, h2, _⟩ := h; exact h2
  | cnt => obtain ⟨k, h1, h2⟩ := h; exact h2
  | tab q => exact h.2
theorem fn_mono (g : Same G G') {v : V} {f c : Addr} {o : HO} {σm : L2.St} {cap : List (Option D)} (h : v = .ref f ∧ G c = some o ∧ σm.length = cap.length ∧ ∀ (i : Nat) (d : D), cap[i]? = some (some d) → ∃ u, σm[i]? = some (some u) ∧ Dd K G u d) : v = .ref f ∧ G' c = some o ∧ σm.length = cap.length ∧ ∀ (i : Nat) (d : D), cap[i]? = some (some d) → ∃ u, σm[i]? = some (some u) ∧ Dd K G' u d :=
  ⟨h.1, g _ _ h.2.1, h.2.2.1, fun i d e => let ⟨u, e1, e2⟩ := h.2.2.2 i d e; ⟨u, e1, Dd.mono g _ _ e2⟩⟩
theorem xcp_mono (g : Same G G') {v : V} {a dd : Addr} {ns : List Str} {ds : List D} (h : v = .ref a ∧ ∃ xs, ns.length = xs.length ∧ G dd = some (.xd (ns.zip xs)) ∧ DdA K G xs ds) : v = .ref a ∧ ∃ xs, ns.length = xs.length ∧ G' dd = some (.xd (ns.zip xs)) ∧ DdA K G' xs ds := by
  obtain ⟨e, xs, h0, h1, h2⟩ := h
  exact ⟨e, xs, h0, g _ _ h1, DdA.mono g _ _ h2⟩
theorem OwnAt.up {a : Addr} {s : Sl} (h : OwnAt K H G a s) (e : ∀ o, H a = some o → H' a = some o) (g : Same G G') : OwnAt K H' G' a s := by
  cases s <;> first | exact h | skip
  · obtain ⟨vs, h1, h2⟩ := h; exact ⟨vs, e _ h1, DdA.mono g _ _ h2⟩
  · obtain ⟨vs, h0, h1, h2⟩ := h; exact ⟨vs, h0, e _ h1, DdA.mono g _ _ h2⟩
  · obtain ⟨vs, h0, h1, h2⟩ := h; exact ⟨vs, h0, e _ h1, DdA.mono g _ _ h2⟩
  · obtain ⟨ex, dx, vs, h0, h1, h2⟩ := h; exact ⟨ex, dx, vs, h0, e _ h1, DdA.mono g _ _ h2⟩
  · obtain ⟨ex, vs, h1, h2⟩ := h; exact ⟨ex, vs, e _ h1, DdA.mono g _ _ h2⟩
theorem OwnAt.there {a : Addr} {s : Sl} (h : OwnAt K H G a s) : ∃ o, H a = some o := by
  cases s <;> first | exact h.elim | skip
  · obtain ⟨vs, h1, h2⟩ := h; exact ⟨_, h1⟩
  · obtain ⟨vs, h0, h1, h2⟩ := h; exact ⟨_, h1⟩
  · obtain ⟨vs, h0, h1, h2⟩ := h; exact ⟨_, h1⟩
  · obtain ⟨_, dx, vs, h0, h1, h2⟩ := h; exact ⟨_, h1⟩
  · obtain ⟨_, vs, h1, h2⟩ := h; exact ⟨_, h1⟩
theorem BagOk.nn {b : Addr} {c : Cell} (h : BagOk H G b c) : ¬ N0 (H b) := by
  cases c with
  | bag c => obtain ⟨x, m, i, ns, h1, _⟩ := h; rw [h1]; exact id
  | cnt => obtain ⟨k, h1, _⟩ := h; rw [h1]; exact id
  | tab q => obtain ⟨⟨ps, h1, _⟩, _⟩ := h; rw [h1]; exact id
theorem OwnAt.nn {a : Addr} {s : Sl} (h : OwnAt K H G a s) : ¬ N0 (H a) := by
  cases s <;> first | exact h.elim | skip
  · obtain ⟨vs, h1, h2⟩ := h; rw [h1]; exact id
  · obtain ⟨vs, h0, h1, h2⟩ := h; rw [h1]; exact id
  · obtain ⟨vs, h0, h1, h2⟩ := h; rw [h1]; exact id
  · obtain ⟨_, dx, vs, h0, h1, h2⟩ := h; rw [h1]; exact id
  · obtain ⟨_, vs, h1, h2⟩ := h; rw [h1]; exact id
theorem Rel.at (R : Rel K B H0 G0 H σ δ G) {i : Nat} {a : Addr} (o : Own σ δ i a) : ∃ s, δ[i]? = some s ∧ s.isOwn = true ∧ OwnAt K H G a s := by
  obtain ⟨e, s, es, io⟩ := o
  refine ⟨s, es, io, ?_⟩
  rcases R.sl i s es with z | ⟨v, ev, ok⟩
  · cases s <;> first | (cases io; done) | (cases z; done)
  · rw [e] at ev
    cases ev
    cases s <;> first | cases io | skip
    all_goals
      obtain ⟨a', e', _, h⟩ := ok
      cases e'
      exact h
theorem Rel.new0 (R : Rel K B H0 G0 H σ δ G) {p : Addr} (hp : H p = none) : H0 p = none := by
  cases q : H0 p with
  | none => rfl
  | some o =>
    rw [R.ent p o q (fun c e => by
      obtain ⟨_, h1⟩ := (R.bag p c e).there
      rw [h1] at hp; cases hp)] at hp
    cases hp
theorem Rel.new1 (R : Rel K B H0 G0 H σ δ G) {p : Addr} (hp : N0 (H p)) : N0 (H0 p) := by
  cases q : H0 p with
  | none => trivial
  | some o =>
    rw [R.ent p o q (fun c e => (R.bag p c e).nn hp)] at hp
    exact hp
theorem Rel.laidG (R : Rel K B H0 G0 H σ δ G) {p : Addr} {o : HO} (hp : H p = none) (so : SzO o) : Rel K B H0 G0 (upd H p o) σ δ (upd G p o) ∧ Same G (upd G p o) := by
  have gp : G p = none := R.sub.free hp
  have sH : Same H (upd H p o) := fun b x e => by rw [upd_ne (ne_of_none e hp)]; exact e
  have sG : Same G (upd G p o) := fun b x e => by rw [upd_ne (ne_of_none e gp)]; exact e
  have ne : ∀ i a, Own σ δ i a → a ≠ p := fun i a oa => by
    obtain ⟨s, _, _, h⟩ := R.at oa
    obtain ⟨x, hx⟩ := h.there
    exact ne_of_none hx hp
  have nb : ∀ b c, (b, c) ∈ B → b ≠ p := fun b c e => by
    obtain ⟨_, h1⟩ := (R.bag b c e).there
    exact ne_of_none h1 hp
  refine ⟨⟨fun b x e => ?_, R.g0.trans sG, fun a x e nB => sH _ _ (R.ent a x e nB), R.len, fun i s e => ?_, R.sep, fun i a oa => ?_, fun b c e => ?_, fun a x e => ?_, R.sz.upd so, R.hd.up sG fun a x e => ?_⟩, sG⟩
  · by_cases hb : b = p
    · subst hb; rw [upd_same] at e ⊢; exact e
    · rw [upd_ne hb] at e ⊢; exact R.sub _ _ e
  · rcases R.sl i s e with z | ⟨v, ev, ok⟩
    · exact .inl z
    · refine .inr ⟨v, ev, ?_⟩
      cases s with
      | no => trivial
      | hd _ _ _ _ => exact ok.elim
      | dt d => exact Dd.mono sG d v ok
      | bag => exact ok
      | cnt => exact ok
      | xcp _ _ _ _ _ => first | exact ok | exact xcp_mono (by assumption) ok | exact xcp_mono k.gg ok
      | fn _ _ _ _ _ => first | exact ok | exact fn_mono (by assumption) ok | exact fn_mono k.gg ok
      | tb _ _ => exact ok
      | ol ds =>
        obtain ⟨a, ea, ga, h⟩ := ok
        exact ⟨a, ea, by rw [upd_ne (ne i a ⟨ea ▸ ev, _, e, rfl⟩)]; exact ga, h.up (fun o q => sH _ _ q) sG⟩
      | oK ks ds =>
        obtain ⟨a, ea, ga, h⟩ := ok
        exact ⟨a, ea, by rw [upd_ne (ne i a ⟨ea ▸ ev, _, e, rfl⟩)]; exact ga, h.up (fun o q => sH _ _ q) sG⟩
      | oT ks ds =>
        obtain ⟨a, ea, ga, h⟩ := ok
        exact ⟨a, ea, by rw [upd_ne (ne i a ⟨ea ▸ ev, _, e, rfl⟩)]; exact ga, h.up (fun o q => sH _ _ q) sG⟩
      | oI x0 C ks ds =>
        obtain ⟨a, ea, ga, h⟩ := ok
        exact ⟨a, ea, by rw [upd_ne (ne i a ⟨ea ▸ ev, _, e, rfl⟩)]; exact ga, h.up (fun o q => sH _ _ q) sG⟩
      | oL x0 ds =>
        obtain ⟨a, ea, ga, h⟩ := ok
        exact ⟨a, ea, by rw [upd_ne (ne i a ⟨ea ▸ ev, _, e, rfl⟩)]; exact ga, h.up (fun o q => sH _ _ q) sG⟩
  · obtain ⟨h1, h2, h3⟩ := R.own i a oa
    exact ⟨h1, by rw [upd_ne (ne i a oa)]; exact h2, h3⟩
  · exact (R.bag b c e).up (upd_ne (nb b c e)) sG (by
      have h2 := (R.bag b c e).gn
      rw [upd_ne (nb b c e)]; exact h2)
  · by_cases hb : a = p
    · exact .inr (.of (hb ▸ R.new0 hp))
    · rw [upd_ne hb] at e; exact R.gn a x e
  · by_cases hb : a = p
    · exact .inr (.of (hb ▸ R.new0 hp))
    · rw [upd_ne hb] at e; exact .inl ⟨x, e⟩
theorem Rel.laidO (R : Rel K B H0 G0 H σ δ G) {p : Addr} {o : HO} (hp : H p = none) (so : SzO o) : Rel K B H0 G0 (upd H p o) σ δ G := by
  have sH : Same H (upd H p o) := fun b x e => by rw [upd_ne (ne_of_none e hp)]; exact e
  have nb : ∀ b c, (b, c) ∈ B → b ≠ p := fun b c e => by
    obtain ⟨_, h1⟩ := (R.bag b c e).there
    exact ne_of_none h1 hp
  refine ⟨R.sub.trans sH, R.g0, fun a x e nB => sH _ _ (R.ent a x e nB), R.len, fun i s e => ?_, R.sep, R.own, fun b c e => ?_, R.gn, R.sz.upd so, R.hd⟩
  · rcases R.sl i s e with z | ⟨v, ev, ok⟩
    · exact .inl z
    · refine .inr ⟨v, ev, ?_⟩
      cases s with
      | no => trivial
      | hd _ _ _ _ => exact ok.elim
      | dt d => exact ok
      | bag => exact ok
      | cnt => exact ok
      | xcp _ _ _ _ _ => first | exact ok | exact xcp_mono (by assumption) ok | exact xcp_mono k.gg ok
      | fn _ _ _ _ _ => first | exact ok | exact fn_mono (by assumption) ok | exact fn_mono k.gg ok
      | tb _ _ => exact ok
      | ol ds => obtain ⟨a, ea, ga, h⟩ := ok; exact ⟨a, ea, ga, h.up (fun o q => sH _ _ q) (Same.refl _)⟩
      | oK ks ds => obtain ⟨a, ea, ga, h⟩ := ok; exact ⟨a, ea, ga, h.up (fun o q => sH _ _ q) (Same.refl _)⟩
      | oT ks ds => obtain ⟨a, ea, ga, h⟩ := ok; exact ⟨a, ea, ga, h.up (fun o q => sH _ _ q) (Same.refl _)⟩
      | oI x0 C ks ds => obtain ⟨a, ea, ga, h⟩ := ok; exact ⟨a, ea, ga, h.up (fun o q => sH _ _ q) (Same.refl _)⟩
      | oL x0 ds => obtain ⟨a, ea, ga, h⟩ := ok; exact ⟨a, ea, ga, h.up (fun o q => sH _ _ q) (Same.refl _)⟩
  · exact (R.bag b c e).up (upd_ne (nb b c e)) (Same.refl _) (R.bag b c e).gn
theorem Rel.newOwn (R : Rel K B H0 G0 H σ δ G) {p : Addr} (hp : H p = none) : H0 p = none ∧ NotB B p ∧ ∀ i, ¬ Own σ δ i p := by
  have nB : NotB B p := fun c e => by
    obtain ⟨_, h1⟩ := (R.bag p c e).there
    rw [h1] at hp; cases hp
  refine ⟨?_, nB, fun i oa => ?_⟩
  · cases q : H0 p with
    | none => rfl
    | some o => rw [R.ent p o q nB] at hp; cases hp
  · obtain ⟨s, _, _, h⟩ := R.at oa
    obtain ⟨x, hx⟩ := h.there
    rw [hx] at hp; cases hp
end
end DL
set_option Elab.async false
set_option linter.all false
set_option maxRecDepth 100000
set_option maxHeartbeats 2000000
namespace DL
open PySem PySem.Spec PyProof.Rows L2
section
variable {K : PySem.W.Frag} {B : Bg K} {H0 G0 H H' G G' : Hp} {σ : L2.St} {δ : List Sl}
theorem Rel.share (R : Rel K B H0 G0 H σ δ G) {a : Addr} {o : HO} (ha : H a = some o) (ga : G a = none) (h0 : H0 a = none) (nb : NotB B a) (no : ∀ i, ¬ Own σ δ i a) :
    Rel K B H0 G0 H σ δ (upd G a o) ∧ Same G (upd G a o) := by
  have sG : Same G (upd G a o) := fun b x e => by rw [upd_ne (ne_of_none e ga)]; exact e
  refine ⟨⟨fun b x e => ?_, R.g0.trans sG, R.ent, R.len, fun i s e => ?_, R.sep, fun i b ob => ?_, fun b c e => ?_, fun b x e => ?_, R.sz, R.hd.up sG fun b x e => ?_⟩, sG⟩
  · by_cases hb : b = a
    · subst hb; rw [upd_same] at e; cases e; exact ha
    · rw [upd_ne hb] at e; exact R.sub _ _ e
  · rcases R.sl i s e with z | ⟨v, ev, ok⟩
    · exact .inl z
    · refine .inr ⟨v, ev, ?_⟩
      cases s with
      | no => trivial
      | hd _ _ _ _ => exact ok.elim
      | dt d => exact Dd.mono sG d v ok
      | bag => exact ok
      | cnt => exact ok
      | xcp _ _ _ _ _ => first | exact ok | exact xcp_mono (by assumption) ok | exact xcp_mono k.gg ok
      | fn _ _ _ _ _ => first | exact ok | exact fn_mono (by assumption) ok | exact fn_mono k.gg ok
      | tb _ _ => exact ok
      | ol ds =>
        obtain ⟨b, eb, gb, h⟩ := ok
        have nba : b ≠ a := fun z => no i (z ▸ ⟨eb ▸ ev, _, e, rfl⟩)
        exact ⟨b, eb, by rw [upd_ne nba]; exact gb, h.up (fun o q => q) sG⟩
      | oK ks ds =>
        obtain ⟨b, eb, gb, h⟩ := ok
        have nba : b ≠ a := fun z => no i (z ▸ ⟨eb ▸ ev, _, e, rfl⟩)
        exact ⟨b, eb, by rw [upd_ne nba]; exact gb, h.up (fun o q => q) sG⟩
      | oT ks ds =>
        obtain ⟨b, eb, gb, h⟩ := ok
        have nba : b ≠ a := fun z => no i (z ▸ ⟨eb ▸ ev, _, e, rfl⟩)
        exact ⟨b, eb, by rw [upd_ne nba]; exact gb, h.up (fun o q => q) sG⟩
      | oI x0 C ks ds =>
        obtain ⟨b, eb, gb, h⟩ := ok
        have nba : b ≠ a := fun z => no i (z ▸ ⟨eb ▸ ev, _, e, rfl⟩)
        exact ⟨b, eb, by rw [upd_ne nba]; exact gb, h.up (fun o q => q) sG⟩
      | oL x0 ds =>
        obtain ⟨b, eb, gb, h⟩ := ok
        have nba : b ≠ a := fun z => no i (z ▸ ⟨eb ▸ ev, _, e, rfl⟩)
        exact ⟨b, eb, by rw [upd_ne nba]; exact gb, h.up (fun o q => q) sG⟩
  · obtain ⟨h1, h2, h3⟩ := R.own i b ob
    have nba : b ≠ a := fun z => by subst z; exact no i ob
    exact ⟨h1, by rw [upd_ne nba]; exact h2, h3⟩
  · have nba : b ≠ a := fun z => nb c (z ▸ e)
    exact (R.bag b c e).up rfl sG (by
      have h2 := (R.bag b c e).gn
      rw [upd_ne nba]; exact h2)
  · by_cases hb : b = a
    · exact .inr (.of (hb ▸ h0))
    · rw [upd_ne hb] at e; exact R.gn b x e
  · by_cases hb : b = a
    · exact .inr (.of (hb ▸ h0))
    · rw [upd_ne hb] at e; exact .inl ⟨x, e⟩
theorem Rel.reslot (R : Rel K B H0 G0 H σ δ G) {i : Nat} {s : Sl} (no : s.isOwn = false) (ok : s = .no ∨ ∃ v, σ[i]? = some (some v) ∧ ValOk K B H G v s) : Rel K B H0 G0 H σ (δ.set i s) G := by
  have back : ∀ j a, Own σ (δ.set i s) j a → Own σ δ j a := fun j a ⟨e, s', e2, io⟩ => by
    by_cases hj : i = j
    · subst hj
      by_cases hl : i < δ.length
      · rw [List.getElem?_set_self hl] at e2; cases e2; rw [no] at io; cases io
      · rw [List.getElem?_eq_none (by simpa using hl)] at e2; cases e2
    · rw [List.getElem?_set_ne hj] at e2; exact ⟨e, s', e2, io⟩
  refine ⟨R.sub, R.g0, R.ent, by rw [List.length_set]; exact R.len, fun j s' e => ?_, fun j k a h1 h2 => R.sep j k a (back j a h1) (back k a h2), fun j a h => R.own j a (back j a h), R.bag, R.gn, R.sz, R.hd.setD i (by rcases ok with rfl | ⟨v, _, ok⟩; rfl; exact ok.nohd)⟩
  by_cases hj : i = j
  · subst hj
    by_cases hl : i < δ.length
    · rw [List.getElem?_set_self hl] at e; cases e; exact ok.imp (fun z => by rw [z]; rfl) id
    · rw [List.getElem?_eq_none (by simpa using hl)] at e; cases e
  · rw [List.getElem?_set_ne hj] at e; exact R.sl j s' e
def fz : Sl → Option D
  | .dt d => some d
  | .ol ds => some (.lst ds)
  | .oK ks vs => some (.dK ks vs)
  | .oT _ _ => none
  | .oI _ C ns vs => some (.ins C ns vs)
  | .oL _ ds => some (.lst ds)
  | .no => none
  | .bag => none
  | .cnt => none
  | .xcp _ _ _ _ _ => none
  | .fn _ _ _ _ _ => none
  | .tb _ _ => none
  | .hd _ _ _ _ => none
theorem OwnAt.obj {a : Addr} {s : Sl} {d : D} (h : OwnAt K H G a s) (hf : fz s = some d) (ga : G a = none) : ∃ o, H a = some o ∧ Dd K (upd G a o) (.ref a) d := by
  have sG : ∀ o, Same G (upd G a o) := fun o b x e => by rw [upd_ne (ne_of_none e ga)]; exact e
  cases s <;> first | exact h.elim | skip
  · obtain ⟨vs, h1, h2⟩ := h; cases hf; exact ⟨_, h1, .lst upd_same (DdA.mono (sG _) _ _ h2)⟩
  · obtain ⟨vs, h0, h1, h2⟩ := h; cases hf; exact ⟨_, h1, .dK h0 (.inl upd_same) (DdA.mono (sG _) _ _ h2)⟩
  · cases hf
  · obtain ⟨_, dx, vs, h0, h1, h2⟩ := h; cases hf; exact ⟨_, h1, .ins h0 upd_same (DdA.mono (sG _) _ _ h2)⟩
  · obtain ⟨_, vs, h1, h2⟩ := h; cases hf; exact ⟨_, h1, .lst upd_same (DdA.mono (sG _) _ _ h2)⟩
theorem ValOk.own {v : V} {s : Sl} (h : ValOk K B H G v s) (io : s.isOwn = true) : ∃ a, v = .ref a ∧ G a = none ∧ OwnAt K H G a s := by
  cases s <;> first | exact h | cases io
theorem freeze (R : Rel K B H0 G0 H σ δ G) {v : V} {r : Sl} {d : D} (ok : ResOk K B H0 H σ δ G v r) (h : fz r = some d) : ∃ G', Rel K B H0 G0 H σ δ G' ∧ Same G G' ∧ Dd K G' v d := by
  obtain ⟨ok1, _, ok3⟩ := ok
  cases io : r.isOwn with
  | true =>
    obtain ⟨a, rfl, ga, oa⟩ := ok1.own io
    obtain ⟨h1, h2, h3⟩ := ok3 io a rfl
    obtain ⟨o, ho, hd⟩ := oa.obj h ga
    obtain ⟨R', sG⟩ := R.share ho ga h1 h2 h3
    exact ⟨_, R', sG, hd⟩
  | false =>
    cases r with
    | dt d' => cases h; exact ⟨G, R, Same.refl _, ok1⟩
    | no => cases h
    | hd _ _ _ _ => cases h
    | bag => cases h
    | cnt => cases h
    | xcp _ _ _ _ _ => cases h
    | fn _ _ _ _ _ => cases h
    | tb _ _ => cases h
    | ol _ => cases io
    | oK _ _ => cases io
    | oT _ _ => cases io
    | oI _ _ _ _ => cases io
    | oL _ _ => cases io
theorem Rel.freezeAt (R : Rel K B H0 G0 H σ δ G) {i : Nat} {s : Sl} {d : D} (hi : δ[i]? = some s) (io : s.isOwn = true) (hf : fz s = some d) :
    ∃ G' v, Rel K B H0 G0 H σ (δ.set i (.dt d)) G' ∧ Same G G' ∧ σ[i]? = some (some v) ∧ Dd K G' v d := by
  rcases R.sl i s hi with z | ⟨v, ev, ok⟩
  · cases s <;> first | (cases io; done) | (cases z; done)
  obtain ⟨a, rfl, ga, oa⟩ := ok.own io
  have own : Own σ δ i a := ⟨ev, s, hi, io⟩
  obtain ⟨h1, h2, h3⟩ := R.own i a own
  obtain ⟨o, ho, hd⟩ := oa.obj hf ga
  have R1 := R.reslot (i := i) (s := .no) rfl (.inl rfl)
  have no : ∀ j, ¬ Own σ (δ.set i .no) j a := fun j ⟨e, s', e2, io'⟩ => by
    by_cases hj : i = j
    · subst hj
      by_cases hl : i < δ.length
      · rw [List.getElem?_set_self hl] at e2; cases e2; cases io'
      · rw [List.getElem?_eq_none (by simpa using hl)] at e2; cases e2
    · rw [List.getElem?_set_ne hj] at e2
      exact hj (R.sep i j a own ⟨e, s', e2, io'⟩)
  obtain ⟨R2, sG⟩ := R1.share ho h2 h1 h3 no
  have R3 := R2.reslot (i := i) (s := .dt d) rfl (.inr ⟨.ref a, ev, hd⟩)
  rw [List.set_set] at R3
  exact ⟨_, _, R3, sG, ev, hd⟩
theorem resOk_dt {v : V} {d : D} (h : Dd K G v d) : ResOk K B H0 H σ δ G v (.dt d) := ⟨h, fun z => (nomatch z), fun z => (nomatch z)⟩
theorem resOk_new (R : Rel K B H0 G0 H σ δ G) {p : Addr} (hp : H p = none) {o : HO} {s : Sl} (io : s.isOwn = true) (oa : OwnAt K (upd H p o) G p s) : ResOk K B H0 (upd H p o) σ δ G (.ref p) s := by
  obtain ⟨h1, h2, h3⟩ := R.newOwn hp
  refine ⟨?_, (fun z => by rw [z] at io; cases io), fun _ a e => ?_⟩
  · cases s <;> first | exact ⟨p, rfl, R.sub.free hp, oa⟩ | cases io
  · cases e; exact ⟨h1, h2, h3⟩
theorem ev_data {t : TD} (m : MonoD t) {P : V → Hp → Prop} {kk : D → List Sl → Prop} (R : Rel K B H0 G0 H σ δ G) (h : t δ (fun r δ' => match fz r with | some d => kk d δ' | none => False))
    (next : ∀ d δ' v H' G', Rel K B H0 G0 H' σ δ' G' → Same G G' → Fra B H H' → Dd K G' v d → kk d δ' → P v H') : tyE K t σ H P := by
  refine ⟨B, H0, G0, δ, G, R, m _ _ _ h fun r δ' q v H' G' R' sG fr ok => ?_⟩
  cases e : fz r with
  | none => rw [e] at q; exact q.elim
  | some d =>
    rw [e] at q
    obtain ⟨G2, R2, s2, hd⟩ := freeze R' ok e
    exact next d δ' v H' G2 R2 (sG.trans s2) fr hd q
end
def tdVar (i : Nat) : TD := fun δ Q => match δ[i]? with
  | some (.dt d) => Q (.dt d) δ
  | some .bag => Q .bag δ
  | some .cnt => Q .cnt δ
  | some (.xcp _ _ _ _ _) => False
  | some (.fn _ _ _ _ _) => False
  | some (.tb _ _) => False
  | some (.ol ds) => Q (.dt (.lst ds)) (δ.set i (.dt (.lst ds)))
  | some (.oK ks vs) => Q (.dt (.dK ks vs)) (δ.set i (.dt (.dK ks vs)))
  | some (.oT _ _) => False
  | some (.oI _ C ns vs) => Q (.dt (.ins C ns vs)) (δ.set i (.dt (.ins C ns vs)))
  | some (.oL _ ds) => Q (.dt (.lst ds)) (δ.set i (.dt (.lst ds)))
  | some .no => False
  | some (.hd _ _ _ _) => False
  | none => False
def tdC (d : D) : TD := fun δ Q => Q (.dt d) δ
section
variable {X : Cx} {e a b : Expr} {pos : Pos}
theorem pd_var {i : Nat} (h : PE X e (tVar i)) : PD X e (tdVar i) := by
  refine ⟨PE.weak h fun σ H Q q => ?_, fun δ Q Q' h w => ?_⟩
  · obtain ⟨B, H0, G0, δ, G, R, q⟩ := q
    unfold tdVar at q
    cases e : δ[i]? with
    | none => rw [e] at q; exact q.elim
    | some s =>
      rw [e] at q
      cases s with
      | no => exact q.elim
      | hd _ _ _ _ => exact q.elim
      | dt d =>
        rcases R.sl i _ e with z | ⟨v, ev, ok⟩
        · cases z
        · exact ⟨v, ev, q v H G R (Same.refl _) (Fra.refl _ _) (resOk_dt ok)⟩
      | bag =>
        rcases R.sl i _ e with z | ⟨v, ev, ok⟩
        · cases z
        · exact ⟨v, ev, q v H G R (Same.refl _) (Fra.refl _ _) ⟨ok, fun z => (nomatch z), fun z => (nomatch z)⟩⟩
      | xcp _ _ _ _ _ => exact q.elim
      | fn _ _ _ _ _ => exact q.elim
      | tb _ _ => exact q.elim
      | cnt =>
        rcases R.sl i _ e with z | ⟨v, ev, ok⟩
        · cases z
        · exact ⟨v, ev, q v H G R (Same.refl _) (Fra.refl _ _) ⟨ok, fun z => (nomatch z), fun z => (nomatch z)⟩⟩
      | ol ds =>
        obtain ⟨G', v, R', sG, ev, hd⟩ := R.freezeAt e rfl rfl
        exact ⟨v, ev, q v H G' R' sG (Fra.refl _ _) (resOk_dt hd)⟩
      | oK ks ds =>
        obtain ⟨G', v, R', sG, ev, hd⟩ := R.freezeAt e rfl rfl
        exact ⟨v, ev, q v H G' R' sG (Fra.refl _ _) (resOk_dt hd)⟩
      | oT ks ds => exact q.elim
      | oI x0 C ks ds =>
        obtain ⟨G', v, R', sG, ev, hd⟩ := R.freezeAt e rfl rfl
        exact ⟨v, ev, q v H G' R' sG (Fra.refl _ _) (resOk_dt hd)⟩
      | oL x0 ds =>
        obtain ⟨G', v, R', sG, ev, hd⟩ := R.freezeAt e rfl rfl
        exact ⟨v, ev, q v H G' R' sG (Fra.refl _ _) (resOk_dt hd)⟩
  · unfold tdVar at h ⊢
    split at h <;> first | exact h.elim | exact w _ _ h
theorem pd_c {v : V} {d : D} (h : PE X e (tC v)) (hd : ∀ G, Dd X.K G v d) : PD X e (tdC d) :=
  ⟨PE.weak h fun σ H Q ⟨B, H0, G0, δ, G, R, q⟩ => q v H G R (Same.refl _) (Fra.refl _ _) (resOk_dt (hd G)), fun _ _ _ h w => w _ _ h⟩
abbrev FD2 := D → D → List Sl → QD → Prop
def td2 (f : FD2) (ta tb : TD) : TD := fun δ Q => ta δ fun r δ1 => match fz r with
  | none => False
  | some d => tb δ1 fun r2 δ2 => match fz r2 with
    | none => False
    | some e => f d e δ2 Q
def MonoF2 (f : FD2) : Prop := ∀ d e δ (Q Q' : QD), f d e δ Q → (∀ r δ', Q r δ' → Q' r δ') → f d e δ Q'
def Aft (K : PySem.W.Frag) (B : Bg K) (H0 G0 H : Hp) (σ : L2.St) (G : Hp) (Q : VK) : QD := fun r δ' => ∀ v H' G', Rel K B H0 G0 H' σ δ' G' → Same G G' → Fra B H H' → ResOk K B H0 H' σ δ' G' v r → Q v H'
def OpS (K : PySem.W.Frag) (r : R2) (f : FD2) : Prop := ∀ (B : Bg K) (H0 G0 H : Hp) (σ : L2.St) (δ : List Sl) (G : Hp) (x y : V) (d e : D) (Q : VK),
  Rel K B H0 G0 H σ δ G → Dd K G x d → Dd K G y e → f d e δ (Aft K B H0 G0 H σ G Q) → r x y H Q
theorem aft_step {K : PySem.W.Frag} {B : Bg K} {H0 G0 H H1 : Hp} {σ : L2.St} {G G1 : Hp} {Q : VK} (sG : Same G G1) (fr : Fra B H H1) : ∀ r δ', Aft K B H0 G0 H σ G Q r δ' → Aft K B H0 G0 H1 σ G1 Q r δ' :=
  fun r δ' q v H' G' R' s' f' ok => q v H' G' R' (sG.trans s') (fr.trans f') ok
theorem td2_run {K : PySem.W.Frag} {r : R2} {f : FD2} {ta tb : TD} (ma : MonoD ta) (mb : MonoD tb) (mf : MonoF2 f) (o : OpS K r f) : ∀ σ H Q, tyE K (td2 f ta tb) σ H Q → tOp r (tyE K ta) (tyE K tb) σ H Q := by
  intro σ H Q ⟨B, H0, G0, δ, G, R, q⟩
  refine ev_data ma (kk := fun d δ1 => tb δ1 fun r2 δ2 => match fz r2 with | some e => f d e δ2 (Aft K B H0 G0 H σ G Q) | none => False) R (ma _ _ _ q fun r δ1 h => ?_) fun d δ1 v H1 G1 R1 s1 f1 hd h => ?_
  · cases e : fz r with
    | none => rw [e] at h; exact h
    | some d =>
      rw [e] at h
      refine mb _ _ _ h fun r2 δ2 h2 => ?_
      cases e2 : fz r2 with
      | none => rw [e2] at h2; exact h2
      | some e' => rw [e2] at h2; exact h2
  · refine ev_data mb (kk := fun e δ2 => f d e δ2 (Aft K B H0 G0 H σ G Q)) R1 h fun e δ2 w H2 G2 R2 s2 f2 he h2 => ?_
    exact o B H0 G0 H2 σ δ2 G2 v w d e Q R2 (Dd.mono s2 _ _ hd) he (mf _ _ _ _ _ h2 (aft_step (s1.trans s2) (f1.trans f2)))
theorem td2_mono {f : FD2} {ta tb : TD} (ma : MonoD ta) (mb : MonoD tb) (mf : MonoF2 f) : MonoD (td2 f ta tb) := fun δ Q Q' h w => ma _ _ _ h fun r δ1 h1 => by
  cases e : fz r with
  | none => rw [e] at h1; exact h1
  | some d =>
    rw [e] at h1
    refine mb _ _ _ h1 fun r2 δ2 h2 => ?_
    cases e2 : fz r2 with
    | none => rw [e2] at h2; exact h2
    | some e' => rw [e2] at h2; exact mf _ _ _ _ _ h2 w
theorem pd_bin {ta tb : TD} {r : R2} {f : FD2} (ha : PD X a ta) (hb : PD X b tb) (mf : MonoF2 f) (o : OpS X.K r f) (rule : PE X e (tOp r (tyE X.K ta) (tyE X.K tb))) : PD X e (td2 f ta tb) :=
  ⟨PE.weak rule (td2_run ha.mono hb.mono mf o), td2_mono ha.mono hb.mono mf⟩
theorem pd_op {op : Operator} {ta tb : TD} {r : R2} {f : FD2} (ho : OpR X (binaryOp op) r) (mf : MonoF2 f) (o : OpS X.K r f) (ha : PD X a ta) (hb : PD X b tb) : PD X (.BinOp a op b pos) (td2 f ta tb) :=
  pd_bin ha hb mf o (pe_op ho ha.pe hb.pe)
theorem pd_cmp {op : CmpOp} {ta tb : TD} {r : R2} {f : FD2} (ho : OpR X (compareOp op) r) (mf : MonoF2 f) (o : OpS X.K r f) (ha : PD X a ta) (hb : PD X b tb) (hm : behindInMarks op b = false) : PD X (.Compare a [op] [b] pos) (td2 f ta tb) :=
  pd_bin ha hb mf o (pe_cmpR ho ha.pe hb.pe hm)
theorem opR_or {op : Value → Value → Sem Value} {r1 r2 : R2} (h1 : OpR X op r1) (h2 : OpR X op r2) : OpR X op (fun x y H Q => r1 x y H Q ∨ r2 x y H Q) := by
  intro pins s σ H x y v u Q I rx ry h
  rcases h with h | h
  · exact h1 pins s σ H x y v u Q I rx ry h
  · exact h2 pins s σ H x y v u Q I rx ry h
end
def fI (g : Int → Int → List Sl → QD → Prop) : FD2 := fun d e δ Q => match d, e with
  | .int i, .int j => g i j δ Q
  | _, _ => False
end DL
set_option Elab.async false
set_option linter.all false
set_option maxRecDepth 100000
set_option maxHeartbeats 2000000
namespace DL
open PySem PySem.Spec PyProof.Rows L2
def keyPy : Key → PyData
  | .inl i => .int i
  | .inr x => .str x
mutual
def py : D → PyData
  | .non => .none
  | .bl b => .bool b
  | .int i => .int i
  | .str x => .str x
  | .lst xs => .list (pyA xs)
  | .tup xs => .tuple (pyA xs)
  | .dK ks vs => .dict ((ks.map keyPy).zip (pyA vs))
  | .dT ks vs => .dict ((ks.map fun k => .tuple (k.map keyPy)).zip (pyA vs))
  | .dL ks vs => .dict ((ks.map keyPy).zip (pyA vs))
  | .ins _ _ _ => .dict []
def pyA : List D → List PyData
  | [] => []
  | x :: xs => py x :: pyA xs
end
theorem pyA_map : ∀ xs : List D, pyA xs = xs.map py
  | [] => by rw [pyA]; rfl
  | x :: xs => by rw [pyA, pyA_map xs]; rfl
section
variable {K : PySem.W.Frag} {G H : Hp}
mutual
theorem Dd.dp (e : Same G H) : ∀ (d : D) (v : V), (py d).canLay0 = true → Dd K G v d → Dp K H v (py d)
  | .non, _, _, h => by cases h; exact .non
  | .bl b, _, _, h => by cases h; exact .bl b
  | .int i, _, _, h => by cases h; exact .int i
  | .str x, _, _, h => by cases h; exact .str x
  | .lst ds, _, c, h => by cases h with | lst h1 h2 => exact .lst (SqL.of (e _ _ h1)) (DdA.dp e ds _ c h2)
  | .tup ds, _, c, h => by cases h with | tup h1 h2 => exact .tup (sameT e h1) (DdA.dp e ds _ c h2)
  | .dK _ _, _, c, _ => by cases c
  | .dT _ _, _, c, _ => by cases c
  | .dL _ _, _, c, _ => by cases c
  | .ins _ _ _, _, c, _ => by cases c
theorem DdA.dp (e : Same G H) : ∀ (ds : List D) (vs : List V), PyData.canLayAll0 (pyA ds) = true → DdA K G vs ds → DpAll K H vs (pyA ds)
  | [], _, _, h => by cases h; exact .nil
  | d :: ds, _, c, h => by
    cases h with
    | cons h1 h2 =>
      rw [pyA, PyData.canLayAll0, Bool.and_eq_true] at c
      exact .cons (Dd.dp e d _ c.1 h1) (DdA.dp e ds _ c.2 h2)
end
end
theorem shaped_lay {d : PyData} (h : SeqAt.shaped d = true) : d.canLay0 = true := by
  unfold SeqAt.shaped at h
  rw [Bool.and_eq_true] at h
  exact h.1
section
variable {K : PySem.W.Frag}
theorem mono_fI {g : Int → Int → List Sl → QD → Prop} (h : ∀ i j δ (Q Q' : QD), g i j δ Q → (∀ r δ', Q r δ' → Q' r δ') → g i j δ Q') : MonoF2 (fI g) := fun d e δ Q Q' q w => by
  unfold fI at q ⊢
  split at q
  · exact h _ _ _ _ _ q w
  · exact q
theorem aft_here {B : Bg K} {H0 G0 H : Hp} {σ : L2.St} {δ : List Sl} {G : Hp} {Q : VK} {v : V} {d : D} (R : Rel K B H0 G0 H σ δ G) (hd : Dd K G v d) (q : Aft K B H0 G0 H σ G Q (.dt d) δ) : Q v H :=
  q v H G R (Same.refl _) (Fra.refl _ _) (resOk_dt hd)
theorem aft_laid {B : Bg K} {H0 G0 H : Hp} {σ : L2.St} {δ : List Sl} {G : Hp} {Q : VK} {p : Addr} {o : HO} {d : D} (R : Rel K B H0 G0 H σ δ G) (hp : H p = none) (so : SzO o) (hd : Dd K (upd G p o) (.ref p) d) (q : Aft K B H0 G0 H σ G Q (.dt d) δ) : Q (.ref p) (upd H p o) := by
  obtain ⟨R', sG⟩ := R.laidG hp so
  exact q _ _ _ R' sG (Fra.upd hp) (resOk_dt hd)
theorem aft_own {B : Bg K} {H0 G0 H : Hp} {σ : L2.St} {δ : List Sl} {G : Hp} {Q : VK} {p : Addr} {o : HO} {s : Sl} (R : Rel K B H0 G0 H σ δ G) (hp : H p = none) (so : SzO o) (io : s.isOwn = true) (oa : OwnAt K (upd H p o) G p s) (q : Aft K B H0 G0 H σ G Q s δ) : Q (.ref p) (upd H p o) :=
  q _ _ _ (R.laidO hp so) (Same.refl _) (Fra.upd hp) (resOk_new R hp io oa)
theorem opS_I {C : Int → Int → Prop} {g : Int → Int → V} {gd : Int → Int → D} (hd : ∀ i j G, Dd K G (g i j) (gd i j)) : OpS K (rI C g) (fI fun i j δ Q => C i j ∧ Q (.dt (gd i j)) δ) := by
  intro B H0 G0 H σ δ G x y d e Q R hx hy q
  unfold fI at q
  split at q
  · cases hx; cases hy
    exact ⟨_, _, rfl, rfl, q.1, aft_here R (hd _ _ _) q.2⟩
  · exact q.elim
theorem opS_I0 {g : Int → Int → V} {gd : Int → Int → D} (hd : ∀ i j G, Dd K G (g i j) (gd i j)) : OpS K (rI0 g) (fI fun i j δ Q => Q (.dt (gd i j)) δ) := by
  intro B H0 G0 H σ δ G x y d e Q R hx hy q
  unfold fI at q
  split at q
  · cases hx; cases hy
    exact ⟨_, _, rfl, rfl, aft_here R (hd _ _ _) q⟩
  · exact q.elim
theorem le_app {xs ys : List V} (z : xs.length + ys.length ≤ sizeLine) : (xs ++ ys).length ≤ sizeLine := by
  rw [List.length_append]; exact z
theorem le_rep {xs : List V} {k : Nat} (z : xs.length * k ≤ sizeLine) : (List.replicate k xs).flatten.length ≤ sizeLine := by
  simp only [List.length_flatten, List.map_replicate, List.sum_replicate_nat]
  rw [Nat.mul_comm]; exact z
def fAdd : FD2 := fun d e δ Q => match d, e with
  | .int i, .int j => Q (.dt (.int (i + j))) δ
  | .str x, .str y => x.length + y.length ≤ sizeLine ∧ Q (.dt (.str (x ++ y))) δ
  | .lst xs, .lst ys => xs.length + ys.length ≤ sizeLine ∧ Q (.ol (xs ++ ys)) δ
  | .tup xs, .tup ys => xs.length + ys.length ≤ sizeLine ∧ Q (.dt (.tup (xs ++ ys))) δ
  | _, _ => False
theorem mono_fAdd : MonoF2 fAdd := fun d e δ Q Q' q w => by
  unfold fAdd at q ⊢
  split at q <;> first | exact w _ _ q | exact ⟨q.1, w _ _ q.2⟩ | exact q
abbrev rAddD (K : PySem.W.Frag) : R2 := fun x y H Q => (rI0 (fun i j => .int (i + j)) x y H Q ∨ (∃ i j, x = .str i ∧ y = .str j ∧ i.length + j.length ≤ sizeLine ∧ Q (.str (i ++ j)) H)) ∨ (rCat x y H Q ∨ rCatA K x y H Q)
theorem opR_addD {X : Cx} : OpR X (binaryOp .Add) (rAddD X.K) := opR_or (opR_or op_add op_add_str) (opR_or op_cat op_catA)
theorem opS_add : OpS K (rAddD K) fAdd := by
  intro B H0 G0 H σ δ G x y d e Q R hx hy q
  unfold fAdd at q
  split at q
  · cases hx; cases hy
    exact .inl (.inl ⟨_, _, rfl, rfl, aft_here R (.int _) q⟩)
  · cases hx; cases hy
    exact .inl (.inr ⟨_, _, rfl, rfl, q.1, aft_here R (.str _) q.2⟩)
  · cases hx with
    | lst h1 h2 =>
      cases hy with
      | lst h3 h4 =>
        have z := q.1
        rw [← h2.len, ← h4.len] at z
        refine .inr (.inl ⟨_, _, _, _, rfl, rfl, R.sub _ _ h1, R.sub _ _ h3, z, fun p hp => ?_⟩)
        exact aft_own (s := .ol _) R hp (le_app z) rfl ⟨_, upd_same, h2.append h4⟩ q.2
  · cases hx with
    | @tup a xs ds h1 h2 =>
      cases hy with
      | @tup b ys es h3 h4 =>
        have z := q.1
        rw [← h2.len, ← h4.len] at z
        refine .inr (.inr ⟨a, b, xs, ys, rfl, rfl, sameT R.sub h1, sameT R.sub h3, z, fun e => ?_, fun _ e => ?_, fun _ _ p hp => ?_⟩)
        · subst e
          cases h2
          exact aft_here R (.tup h3 h4) q.2
        · subst e
          cases h4
          rw [List.append_nil] at q
          exact aft_here R (.tup h1 h2) q.2
        · have gp := R.sub.free hp
          have sG : Same G (upd G p (.tup (xs ++ ys))) := fun b x e => by rw [upd_ne (ne_of_none e gp)]; exact e
          exact aft_laid R hp (le_app z) (.tup (.inl upd_same) (DdA.mono sG _ _ (h2.append h4))) q.2
  · exact q.elim
def fMul : FD2 := fun d e δ Q => match d, e with
  | .int i, .int j => CMul i j ∧ Q (.dt (.int (i * j))) δ
  | .lst xs, .int k => -(2 ^ 63) ≤ k ∧ k < 2 ^ 63 ∧ xs.length * k.toNat ≤ sizeLine ∧ Q (.ol (List.replicate k.toNat xs).flatten) δ
  | _, _ => False
theorem DdA.rep {G : Hp} {vs : List V} {ds : List D} (h : DdA K G vs ds) : ∀ n : Nat, DdA K G (List.replicate n vs).flatten (List.replicate n ds).flatten
  | 0 => .nil
  | n + 1 => by rw [List.replicate_succ, List.replicate_succ, List.flatten_cons, List.flatten_cons]; exact h.append (DdA.rep h n)
abbrev rMulD : R2 := fun x y H Q => rI CMul (fun i j => .int (i * j)) x y H Q ∨ rRep x y H Q
theorem opR_mulD {X : Cx} : OpR X (binaryOp .Mult) rMulD := opR_or op_mul op_rep
theorem opS_mul : OpS K rMulD fMul := by
  intro B H0 G0 H σ δ G x y d e Q R hx hy q
  unfold fMul at q
  split at q
  · cases hx; cases hy
    exact .inl ⟨_, _, rfl, rfl, q.1, aft_here R (.int _) q.2⟩
  · cases hy
    cases hx with
    | lst h1 h2 =>
      obtain ⟨q1, q2, q3, q4⟩ := q
      rw [← h2.len] at q3
      exact .inr ⟨_, _, _, rfl, rfl, R.sub _ _ h1, q1, q2, q3, fun p hp => aft_own (s := .ol _) R hp (le_rep q3) rfl ⟨_, upd_same, h2.rep _⟩ q4⟩
  · exact q.elim
def fEq : FD2 := fun d e δ Q => match d, e with
  | .str a, .str b => Q (.dt (.bl (decide (a = b)))) δ
  | d, e => SeqAt.shaped (py d) = true ∧ SeqAt.shaped (py e) = true ∧ Q (.dt (.bl (PyData.eqv (py d) (py e)))) δ
def fNe : FD2 := fun d e δ Q => match d, e with
  | .str a, .str b => Q (.dt (.bl (!decide (a = b)))) δ
  | d, e => SeqAt.shaped (py d) = true ∧ SeqAt.shaped (py e) = true ∧ Q (.dt (.bl (!PyData.eqv (py d) (py e)))) δ
theorem mono_fEq : MonoF2 fEq := fun d e δ Q Q' q w => by
  unfold fEq at q ⊢
  split at q
  · exact w _ _ q
  · exact ⟨q.1, q.2.1, w _ _ q.2.2⟩
theorem mono_fNe : MonoF2 fNe := fun d e δ Q Q' q w => by
  unfold fNe at q ⊢
  split at q
  · exact w _ _ q
  · exact ⟨q.1, q.2.1, w _ _ q.2.2⟩
abbrev rEqX (K : PySem.W.Frag) : R2 := fun x y H Q => rEq x y H Q ∨ rEqD K x y H Q
abbrev rNeX (K : PySem.W.Frag) : R2 := fun x y H Q => rNe x y H Q ∨ rNeD K x y H Q
theorem v_str (a b : Str) : decide ((V.str a) = V.str b) = decide (a = b) := by
  by_cases h : a = b
  · subst h; rw [decide_eq_true rfl, decide_eq_true rfl]
  · rw [decide_eq_false h, decide_eq_false fun z => h (V.str.inj z)]
theorem opS_eq : OpS K (rEqX K) fEq := by
  intro B H0 G0 H σ δ G x y d e Q R hx hy q
  unfold fEq at q
  split at q
  · cases hx; cases hy
    exact .inl ⟨rfl, by rw [v_str]; exact aft_here R (.bl _) q⟩
  · exact .inr ⟨_, _, Dd.dp R.sub d x (shaped_lay q.1) hx, Dd.dp R.sub e y (shaped_lay q.2.1) hy, q.1, q.2.1, aft_here R (.bl _) q.2.2⟩
theorem opS_ne : OpS K (rNeX K) fNe := by
  intro B H0 G0 H σ δ G x y d e Q R hx hy q
  unfold fNe at q
  split at q
  · cases hx; cases hy
    exact .inl ⟨rfl, by rw [v_str]; exact aft_here R (.bl _) q⟩
  · exact .inr ⟨_, _, Dd.dp R.sub d x (shaped_lay q.1) hx, Dd.dp R.sub e y (shaped_lay q.2.1) hy, q.1, q.2.1, aft_here R (.bl _) q.2.2⟩
def isNon : D → Bool
  | .non => true
  | _ => false
theorem isNon_dec {G : Hp} {v : V} {d : D} (h : Dd K G v d) : decide (v = .non) = isNon d := by
  cases h <;> rfl
def fIsN : FD2 := fun d e δ Q => match e with
  | .non => Q (.dt (.bl (isNon d))) δ
  | _ => False
theorem mono_fIsN : MonoF2 fIsN := fun d e δ Q Q' q w => by
  unfold fIsN at q ⊢
  split at q <;> first | exact w _ _ q | exact q
theorem opS_isN : OpS K (fun x y H Q => y = .non ∧ Q (.bl (decide (x = .non))) H) fIsN := by
  intro B H0 G0 H σ δ G x y d e Q R hx hy q
  unfold fIsN at q
  split at q
  · cases hy
    exact ⟨rfl, by rw [isNon_dec hx]; exact aft_here R (.bl _) q⟩
  · exact q.elim
def toV : D → Option V
  | .non => some .non
  | .bl b => some (.bl b)
  | .int i => some (.int i)
  | .str x => some (.str x)
  | _ => none
def toVs : List D → Option (List V)
  | [] => some []
  | d :: ds => match toV d, toVs ds with
    | some v, some vs => some (v :: vs)
    | _, _ => none
theorem toV_ok {G : Hp} {v w : V} {d : D} (h : Dd K G v d) (e : toV d = some w) : v = w ∧ flatV v = true := by
  cases h <;> first | (cases e; exact ⟨rfl, rfl⟩) | cases e
theorem toVs_ok {G : Hp} : ∀ {vs ws : List V} {ds : List D}, DdA K G vs ds → toVs ds = some ws → vs = ws ∧ vs.all flatV = true
  | _, _, [], h, e => by cases h; cases e; exact ⟨rfl, rfl⟩
  | _, _, d :: ds, h, e => by
    cases h with
    | cons h1 h2 =>
      unfold toVs at e
      split at e
      · rename_i v vs e1 e2
        cases e
        obtain ⟨z1, z2⟩ := toV_ok h1 e1
        obtain ⟨z3, z4⟩ := toVs_ok h2 e2
        subst z1; subst z3
        exact ⟨rfl, by rw [List.all_cons, z2, z4]; rfl⟩
      · cases e
def seqOf : D → Option (List D)
  | .lst xs => some xs
  | .tup xs => some xs
  | _ => none
theorem seqOf_ok {B : Bg K} {H0 G0 H : Hp} {σ : L2.St} {δ : List Sl} {G : Hp} (R : Rel K B H0 G0 H σ δ G) {v : V} {d : D} {xs : List D} (h : Dd K G v d) (e : seqOf d = some xs) : ∃ a vs, v = .ref a ∧ (SqL K H a vs ∨ SqT K H a vs) ∧ DdA K G vs xs := by
  cases h <;> first | cases e | skip
  · rename_i a vs h1 h2; exact ⟨a, vs, rfl, .inl (SqL.of (R.sub _ _ h1)), h2⟩
  · rename_i a vs h1 h2; exact ⟨a, vs, rfl, .inr (sameT R.sub h1), h2⟩
def fIn (neg : Bool) : FD2 := fun d e δ Q => match toV d, (seqOf e).bind toVs with
  | some v, some vs => Q (.dt (.bl (if neg then !inV v vs else inV v vs))) δ
  | _, _ => False
theorem mono_fIn {neg : Bool} : MonoF2 (fIn neg) := fun d e δ Q Q' q w => by
  unfold fIn at q ⊢
  split at q <;> first | exact w _ _ q | exact q
theorem opS_in {neg : Bool} : OpS K (rIn K neg) (fIn neg) := by
  intro B H0 G0 H σ δ G x y d e Q R hx hy q
  unfold fIn at q
  split at q
  · rename_i v vs e1 e2
    obtain ⟨xs, e3, e4⟩ := Option.bind_eq_some_iff.mp e2
    obtain ⟨a, ws, rfl, hq, hA⟩ := seqOf_ok R hy e3
    obtain ⟨z1, z2⟩ := toV_ok hx e1
    obtain ⟨z3, z4⟩ := toVs_ok hA e4
    subst z1; subst z3
    exact ⟨a, _, rfl, hq, z2, z4, aft_here R (.bl _) q⟩
  · exact q.elim
def fIx : FD2 := fun d e δ Q => match e with
  | .int i => match d with
    | .lst xs => ∃ x, atI xs i = some x ∧ Q (.dt x) δ
    | .tup xs => ∃ x, atI xs i = some x ∧ Q (.dt x) δ
    | .str z => z.length ≤ sizeLine ∧ ∃ c, atI z.cps.toList i = some c ∧ Q (.dt (.str ⟨#[c]⟩)) δ
    | _ => False
  | _ => False
theorem mono_fIx : MonoF2 fIx := fun d e δ Q Q' q w => by
  unfold fIx at q ⊢
  split at q
  · split at q
    · obtain ⟨x, q1, q2⟩ := q; exact ⟨x, q1, w _ _ q2⟩
    · obtain ⟨x, q1, q2⟩ := q; exact ⟨x, q1, w _ _ q2⟩
    · obtain ⟨q0, x, q1, q2⟩ := q; exact ⟨q0, x, q1, w _ _ q2⟩
    · exact q
  · exact q
theorem DdA.atI {G : Hp} {vs : List V} {ds : List D} {i : Int} {d : D} (h : DdA K G vs ds) (e : L2.atI ds i = some d) : ∃ v, L2.atI vs i = some v ∧ Dd K G v d := by
  unfold L2.atI at e ⊢
  obtain ⟨j, e1, e2⟩ := Option.bind_eq_some_iff.mp e
  obtain ⟨v, e3, hv⟩ := h.get e2
  rw [h.len, e1]
  exact ⟨v, e3, hv⟩
theorem opS_ix : OpS K (rIx K) fIx := by
  intro B H0 G0 H σ δ G x y d e Q R hx hy q
  unfold fIx at q
  split at q
  · cases hy
    split at q
    · obtain ⟨z, e1, q⟩ := q
      cases hx with
      | lst h1 h2 =>
        obtain ⟨v, e2, hv⟩ := h2.atI e1
        exact .inl ⟨_, _, _, v, rfl, rfl, SqL.of (R.sub _ _ h1), e2, aft_here R hv q⟩
    · obtain ⟨z, e1, q⟩ := q
      cases hx with
      | tup h1 h2 =>
        obtain ⟨v, e2, hv⟩ := h2.atI e1
        exact .inr (.inl ⟨_, _, _, v, rfl, rfl, sameT R.sub h1, e2, aft_here R hv q⟩)
    · obtain ⟨q1, c, e1, q2⟩ := q
      cases hx
      exact .inr (.inr ⟨_, _, _, rfl, rfl, q1, e1, aft_here R (.str _) q2⟩)
    · exact q.elim
  · exact q.elim
end
section
variable {X : Cx} {a b : Expr} {ta tb : TD} {pos : Pos}
theorem pd_add (ha : PD X a ta) (hb : PD X b tb) : PD X (.BinOp a .Add b pos) (td2 fAdd ta tb) := pd_op opR_addD mono_fAdd opS_add ha hb
def fSub : FD2 := fI fun i j δ Q => Q (.dt (.int (i - j))) δ
theorem pd_sub (ha : PD X a ta) (hb : PD X b tb) : PD X (.BinOp a .Sub b pos) (td2 fSub ta tb) := pd_op op_sub (mono_fI fun _ _ _ _ _ q w => w _ _ q) (opS_I0 fun _ _ _ => .int _) ha hb
def fPow : FD2 := fI fun i j δ Q => CPow i j ∧ Q (.dt (.int (i ^ j.toNat))) δ
theorem pd_pow (ha : PD X a ta) (hb : PD X b tb) : PD X (.BinOp a .Pow b pos) (td2 fPow ta tb) := pd_op op_pow (mono_fI fun _ _ _ _ _ q w => ⟨q.1, w _ _ q.2⟩) (opS_I fun _ _ _ => .int _) ha hb
def fLt : FD2 := fI fun i j δ Q => Q (.dt (.bl (decide (i < j)))) δ
def fLe : FD2 := fI fun i j δ Q => Q (.dt (.bl (decide (i ≤ j)))) δ
def fGt : FD2 := fI fun i j δ Q => Q (.dt (.bl (decide (j < i)))) δ
def fGe : FD2 := fI fun i j δ Q => Q (.dt (.bl (decide (j ≤ i)))) δ
theorem mono_fLt : MonoF2 fLt := mono_fI fun _ _ _ _ _ q w => w _ _ q
theorem mono_fLe : MonoF2 fLe := mono_fI fun _ _ _ _ _ q w => w _ _ q
theorem mono_fGt : MonoF2 fGt := mono_fI fun _ _ _ _ _ q w => w _ _ q
theorem mono_fGe : MonoF2 fGe := mono_fI fun _ _ _ _ _ q w => w _ _ q
theorem pd_ge (ha : PD X a ta) (hb : PD X b tb) (hm : behindInMarks .GtE b = false := nomark _) : PD X (.Compare a [.GtE] [b] pos) (td2 fGe ta tb) := pd_cmp op_ge mono_fGe (opS_I0 fun _ _ _ => .bl _) ha hb hm
theorem pd_eq (hu : X.A.units + 64 < cLine) (ha : PD X a ta) (hb : PD X b tb) (hm : behindInMarks .Eq b = false := nomark _) : PD X (.Compare a [.Eq] [b] pos) (td2 fEq ta tb) := pd_cmp (opR_or op_eq (op_eqD hu)) mono_fEq opS_eq ha hb hm
theorem pd_isN (ha : PD X a ta) (hb : PD X b tb) (hm : behindInMarks .Is b = false := nomark _) : PD X (.Compare a [.Is] [b] pos) (td2 fIsN ta tb) := pd_cmp op_isN mono_fIsN opS_isN ha hb hm
theorem pd_in (ha : PD X a ta) (hb : PD X b tb) (hm : behindInMarks .In b = false := by rfl) : PD X (.Compare a [.In] [b] pos) (td2 (fIn false) ta tb) := pd_cmp op_in_seq mono_fIn opS_in ha hb hm
theorem pd_ix (ha : PD X a ta) (hb : PD X b tb) (hs : PlainIx b) : PD X (.Subscript a b pos) (td2 fIx ta tb) := pd_bin ha hb mono_fIx opS_ix (pe_ix ix_seq ha.pe hb.pe hs)
end
end DL
set_option Elab.async false
set_option linter.all false
set_option maxRecDepth 100000
set_option maxHeartbeats 2000000
namespace DL
open PySem PySem.Spec PyProof.Rows L2
abbrev TDT := List Sl → (Bool → List Sl → Prop) → Prop
def MonoT (t : TDT) : Prop := ∀ δ (Q Q' : Bool → List Sl → Prop), t δ Q → (∀ b δ', Q b δ' → Q' b δ') → t δ Q'
def AftT (K : PySem.W.Frag) (B : Bg K) (H0 G0 H : Hp) (σ : L2.St) (G : Hp) (Q : Bool → Hp → Prop) : Bool → List Sl → Prop := fun b δ' => ∀ H' G', Rel K B H0 G0 H' σ δ' G' → Same G G' → Fra B H H' → Q b H'
def tyT (K : PySem.W.Frag) (t : TDT) : TT := fun σ H Q => ∃ B H0 G0 δ G, Rel K B H0 G0 H σ δ G ∧ t δ (AftT K B H0 G0 H σ G Q)
structure PDT (X : Cx) (e : Expr) (t : TDT) : Prop where
  pt : PT X e (tyT X.K t)
  mono : MonoT t
structure PDW (X : Cx) (e : Expr) (t : TDT) : Prop where
  pw : PW X e (tyT X.K t)
  mono : MonoT t
theorem PW.weak {X : Cx} {e : Expr} {t t' : TT} (h : PW X e t) (w : ∀ σ H Q, t' σ H Q → t σ H Q) : PW X e t' := ⟨fun wh pins s σ H Q I q => h.run wh pins s σ H Q I (w σ H Q q)⟩
theorem aftT_step {K : PySem.W.Frag} {B : Bg K} {H0 G0 H H1 : Hp} {σ : L2.St} {G G1 : Hp} {Q : Bool → Hp → Prop} (sG : Same G G1) (fr : Fra B H H1) : ∀ b δ', AftT K B H0 G0 H σ G Q b δ' → AftT K B H0 G0 H1 σ G1 Q b δ' :=
  fun b δ' q H' G' R' s' f' => q H' G' R' (sG.trans s') (fr.trans f')
def truth : D → Option Bool
  | .non => some false
  | .bl b => some b
  | .int i => some (i != 0)
  | .lst xs => some (!xs.isEmpty)
  | .tup xs => some (!xs.isEmpty)
  | _ => none
def tdTru (t : TD) : TDT := fun δ Q => t δ fun r δ' => match (fz r).bind truth with
  | some b => Q b δ'
  | none => False
def tdBool (t : TD) : TDT := fun δ Q => t δ fun r δ' => match r with
  | .dt (.bl b) => Q b δ'
  | _ => False
def tdNotT (t : TDT) : TDT := fun δ Q => t δ fun b δ' => Q (!b) δ'
def tdAndT (t u : TDT) : TDT := fun δ Q => t δ fun b δ' => if b = true then u δ' Q else Q false δ'
def tdOrT (t u : TDT) : TDT := fun δ Q => t δ fun b δ' => if b = true then Q true δ' else u δ' Q
theorem isEmpty_len {α β : Type} {xs : List α} {ys : List β} (h : xs.length = ys.length) : (!xs.isEmpty) = !ys.isEmpty := by
  cases xs <;> cases ys <;> first | rfl | simp at h
section
variable {X : Cx} {e a b c : Expr} {rest : List Expr} {pos : Pos} {ta tb tc : TD} {ua ub : TDT}
theorem pdt_bool (h : PD X e ta) (rule : PT X e (tB (tyE X.K ta))) : PDT X e (tdBool ta) := by
  refine ⟨PT.weak rule fun σ H Q ⟨B, H0, G0, δ, G, R, q⟩ => ⟨B, H0, G0, δ, G, R, h.mono _ _ _ q fun r δ' q v H' G' R' s' f' ok => ?_⟩, fun δ Q Q' q w => h.mono _ _ _ q fun r δ' q => ?_⟩
  · split at q
    · cases ok.1
      exact ⟨_, rfl, q H' G' R' s' f'⟩
    · exact q.elim
  · split at q
    · exact w _ _ q
    · exact q
theorem pdt_b (h : PD X e ta) (he : ∀ whole, isTrue e X.env whole = (do let v ← whole; standAt e.pos; holding [v] (truthy v)) := by intro _; rfl) : PDT X e (tdBool ta) := pdt_bool h (pt_val h.pe he)
theorem pdt_tru (h : PD X e ta) (he : ∀ whole, isTrue e X.env whole = (do let v ← whole; standAt e.pos; holding [v] (truthy v)) := by intro _; rfl) : PDT X e (tdTru ta) := by
  refine ⟨PT.weak (pt_truth h.pe he) fun σ H Q ⟨B, H0, G0, δ, G, R, q⟩ => ⟨B, H0, G0, δ, G, R, h.mono _ _ _ q fun r δ' q v H' G' R' s' f' ok => ?_⟩, fun δ Q Q' q w => h.mono _ _ _ q fun r δ' q => ?_⟩
  · split at q
    · rename_i k e1
      obtain ⟨d, e2, e3⟩ := Option.bind_eq_some_iff.mp e1
      obtain ⟨G2, R2, s2, hd⟩ := freeze R' ok e2
      refine ⟨k, ?_, q H' G2 R2 (s'.trans s2) f'⟩
      cases hd <;> first | (cases e3; rfl) | cases e3
      · rename_i h1 h2; exact .inl ⟨_, SqL.of (R2.sub _ _ h1), by rw [isEmpty_len h2.len]⟩
      · rename_i h1 h2; exact .inr (.inl ⟨_, sameT R2.sub h1, by rw [isEmpty_len h2.len]⟩)
    · exact q.elim
  · split at q
    · exact w _ _ q
    · exact q
theorem pdt_cmp {ops : List CmpOp} {bs : List Expr} (h : PD X (.Compare a ops bs pos) ta) (rule : PT X (.Compare a ops bs pos) (tTest (tyE X.K ta))) : PDT X (.Compare a ops bs pos) (tdBool ta) := by
  refine ⟨PT.weak rule fun σ H Q ⟨B, H0, G0, δ, G, R, q⟩ => ⟨B, H0, G0, δ, G, R, h.mono _ _ _ q fun r δ' q v H' G' R' s' f' ok => ?_⟩, fun δ Q Q' q w => h.mono _ _ _ q fun r δ' q => ?_⟩
  · split at q
    · cases ok.1
      exact ⟨_, rfl, q H' G' R' s' f'⟩
    · exact q.elim
  · split at q
    · exact w _ _ q
    · exact q
theorem tT_weak {r : R2} {f : FD2} (ma : MonoD ta) (mb : MonoD tb) (mf : MonoF2 f) (o : OpS X.K r f) (h : PT X e (tTest (tOp r (tyE X.K ta) (tyE X.K tb)))) : PT X e (tTest (tyE X.K (td2 f ta tb))) :=
  PT.weak h fun σ H Q q => td2_run ma mb mf o σ H _ q
theorem pdt_of {op : CmpOp} {r : R2} {f : FD2} (ho : OpR X (compareOp op) r) (mf : MonoF2 f) (o : OpS X.K r f) (ha : PD X a ta) (hb : PD X b tb) (hm : behindInMarks op b = false) : PDT X (.Compare a [op] [b] pos) (tdBool (td2 f ta tb)) :=
  pdt_cmp (pd_cmp ho mf o ha hb hm) (tT_weak ha.mono hb.mono mf o (pt_cmpR ho ha.pe hb.pe hm))
theorem pdt_lt (ha : PD X a ta) (hb : PD X b tb) (hm : behindInMarks .Lt b = false := nomark _) : PDT X (.Compare a [.Lt] [b] pos) (tdBool (td2 fLt ta tb)) := pdt_of op_lt mono_fLt (opS_I0 fun _ _ _ => .bl _) ha hb hm
theorem pdt_gt (ha : PD X a ta) (hb : PD X b tb) (hm : behindInMarks .Gt b = false := nomark _) : PDT X (.Compare a [.Gt] [b] pos) (tdBool (td2 fGt ta tb)) := pdt_of op_gt mono_fGt (opS_I0 fun _ _ _ => .bl _) ha hb hm
theorem pdt_eq (hu : X.A.units + 64 < cLine) (ha : PD X a ta) (hb : PD X b tb) (hm : behindInMarks .Eq b = false := nomark _) : PDT X (.Compare a [.Eq] [b] pos) (tdBool (td2 fEq ta tb)) := pdt_of (opR_or op_eq (op_eqD hu)) mono_fEq opS_eq ha hb hm
theorem pdt_ne (hu : X.A.units + 64 < cLine) (ha : PD X a ta) (hb : PD X b tb) (hm : behindInMarks .NotEq b = false := nomark _) : PDT X (.Compare a [.NotEq] [b] pos) (tdBool (td2 fNe ta tb)) := pdt_of (opR_or op_ne (op_neD hu)) mono_fNe opS_ne ha hb hm
theorem pdt_in (ha : PD X a ta) (hb : PD X b tb) (hm : behindInMarks .In b = false := by rfl) : PDT X (.Compare a [.In] [b] pos) (tdBool (td2 (fIn false) ta tb)) := pdt_of op_in_seq mono_fIn opS_in ha hb hm
theorem pdt_notIn (ha : PD X a ta) (hb : PD X b tb) (hm : behindInMarks .NotIn b = false := by rfl) : PDT X (.Compare a [.NotIn] [b] pos) (tdBool (td2 (fIn true) ta tb)) := pdt_of op_notIn_seq mono_fIn opS_in ha hb hm
theorem pdt_not (h : PDT X a ua) : PDT X (.UnaryOp .Not a pos) (tdNotT ua) :=
  ⟨PT.weak (pt_not h.pt) fun σ H Q ⟨B, H0, G0, δ, G, R, q⟩ => ⟨B, H0, G0, δ, G, R, h.mono _ _ _ q fun b δ' q H' G' R' s' f' => q H' G' R' s' f'⟩, fun δ Q Q' q w => h.mono _ _ _ q fun b δ' q => w _ _ q⟩
theorem pdw_and1 (h : PDT X a ua) : PDW X (.BoolOp .And [a] pos) ua := ⟨pw_and1 h.pt, h.mono⟩
theorem pdw_or1 (h : PDT X a ua) : PDW X (.BoolOp .Or [a] pos) ua := ⟨pw_or1 h.pt, h.mono⟩
theorem pdw_and (h : PDT X a ua) (k : PDW X (.BoolOp .And (b :: rest) pos) ub) : PDW X (.BoolOp .And (a :: b :: rest) pos) (tdAndT ua ub) := by
  refine ⟨PW.weak (pw_and h.pt k.pw) fun σ H Q ⟨B, H0, G0, δ, G, R, q⟩ => ⟨B, H0, G0, δ, G, R, h.mono _ _ _ q fun z δ' q H' G' R' s' f' => ?_⟩, fun δ Q Q' q w => h.mono _ _ _ q fun z δ' q => ?_⟩
  · cases z with
    | true => exact ⟨B, H0, G0, δ', G', R', k.mono _ _ _ q (aftT_step s' f')⟩
    | false => exact q H' G' R' s' f'
  · cases z with
    | true => exact k.mono _ _ _ q w
    | false => exact w _ _ q
theorem pdw_or (h : PDT X a ua) (k : PDW X (.BoolOp .Or (b :: rest) pos) ub) : PDW X (.BoolOp .Or (a :: b :: rest) pos) (tdOrT ua ub) := by
  refine ⟨PW.weak (pw_or h.pt k.pw) fun σ H Q ⟨B, H0, G0, δ, G, R, q⟩ => ⟨B, H0, G0, δ, G, R, h.mono _ _ _ q fun z δ' q H' G' R' s' f' => ?_⟩, fun δ Q Q' q w => h.mono _ _ _ q fun z δ' q => ?_⟩
  · cases z with
    | false => exact ⟨B, H0, G0, δ', G', R', k.mono _ _ _ q (aftT_step s' f')⟩
    | true => exact q H' G' R' s' f'
  · cases z with
    | false => exact k.mono _ _ _ q w
    | true => exact w _ _ q
theorem PDW.t (h : PDW X e ua) : PDT X e ua := ⟨h.pw.pt, h.mono⟩
def tdAnd (ta tb : TD) : TD := fun δ Q => ta δ fun r δ' => match r with
  | .dt (.bl c) => if c = true then tb δ' Q else Q (.dt (.bl false)) δ'
  | _ => False
def tdOr (ta tb : TD) : TD := fun δ Q => ta δ fun r δ' => match r with
  | .dt (.bl c) => if c = true then Q (.dt (.bl true)) δ' else tb δ' Q
  | _ => False
def tdNot (ta : TD) : TD := fun δ Q => ta δ fun r δ' => match r with
  | .dt (.bl c) => Q (.dt (.bl (!c))) δ'
  | _ => False
def tdIf (u : TDT) (ta tb : TD) : TD := fun δ Q => u δ fun c δ' => if c = true then ta δ' Q else tb δ' Q
theorem pd_one {op} (h : PD X a ta) : PD X (.BoolOp op [a] pos) ta := ⟨pe_one h.pe, h.mono⟩
theorem pd_and (h : PD X a ta) (k : PD X (.BoolOp .And (b :: rest) pos) tb) : PD X (.BoolOp .And (a :: b :: rest) pos) (tdAnd ta tb) := by
  refine ⟨PE.weak (pe_and h.pe k.pe) fun σ H Q ⟨B, H0, G0, δ, G, R, q⟩ => ⟨B, H0, G0, δ, G, R, h.mono _ _ _ q fun r δ' q v H' G' R' s' f' ok => ?_⟩, fun δ Q Q' q w => h.mono _ _ _ q fun r δ' q => ?_⟩
  · split at q
    · cases ok.1
      rename_i c
      refine ⟨c, rfl, ?_⟩
      cases c with
      | true => exact ⟨B, H0, G0, δ', G', R', k.mono _ _ _ q (aft_step s' f')⟩
      | false => exact q _ _ _ R' s' f' (resOk_dt (.bl _))
    · exact q.elim
  · split at q
    · rename_i c
      cases c with
      | true => exact k.mono _ _ _ q w
      | false => exact w _ _ q
    · exact q
theorem pd_or (h : PD X a ta) (k : PD X (.BoolOp .Or (b :: rest) pos) tb) : PD X (.BoolOp .Or (a :: b :: rest) pos) (tdOr ta tb) := by
  refine ⟨PE.weak (pe_or h.pe k.pe) fun σ H Q ⟨B, H0, G0, δ, G, R, q⟩ => ⟨B, H0, G0, δ, G, R, h.mono _ _ _ q fun r δ' q v H' G' R' s' f' ok => ?_⟩, fun δ Q Q' q w => h.mono _ _ _ q fun r δ' q => ?_⟩
  · split at q
    · cases ok.1
      rename_i c
      refine ⟨c, rfl, ?_⟩
      cases c with
      | false => exact ⟨B, H0, G0, δ', G', R', k.mono _ _ _ q (aft_step s' f')⟩
      | true => exact q _ _ _ R' s' f' (resOk_dt (.bl _))
    · exact q.elim
  · split at q
    · rename_i c
      cases c with
      | false => exact k.mono _ _ _ q w
      | true => exact w _ _ q
    · exact q
theorem pd_not (h : PD X a ta) : PD X (.UnaryOp .Not a pos) (tdNot ta) := by
  refine ⟨PE.weak (pe_not h.pe) fun σ H Q ⟨B, H0, G0, δ, G, R, q⟩ => ⟨B, H0, G0, δ, G, R, h.mono _ _ _ q fun r δ' q v H' G' R' s' f' ok => ?_⟩, fun δ Q Q' q w => h.mono _ _ _ q fun r δ' q => ?_⟩
  · split at q
    · cases ok.1
      exact ⟨_, rfl, q _ _ _ R' s' f' (resOk_dt (.bl _))⟩
    · exact q.elim
  · split at q
    · exact w _ _ q
    · exact q
theorem pd_if (h : PDT X c ua) (k : PD X a ta) (l : PD X b tb) : PD X (.IfExp c a b pos) (tdIf ua ta tb) := by
  refine ⟨PE.weak (pe_ifExp h.pt k.pe l.pe) fun σ H Q ⟨B, H0, G0, δ, G, R, q⟩ => ⟨B, H0, G0, δ, G, R, h.mono _ _ _ q fun z δ' q H' G' R' s' f' => ?_⟩, fun δ Q Q' q w => h.mono _ _ _ q fun z δ' q => ?_⟩
  · cases z with
    | true => exact ⟨B, H0, G0, δ', G', R', k.mono _ _ _ q (aft_step s' f')⟩
    | false => exact ⟨B, H0, G0, δ', G', R', l.mono _ _ _ q (aft_step s' f')⟩
  · cases z with
    | true => exact k.mono _ _ _ q w
    | false => exact l.mono _ _ _ q w
def tdNeg (ta : TD) : TD := fun δ Q => ta δ fun r δ' => match r with
  | .dt (.int i) => Q (.dt (.int (-i))) δ'
  | _ => False
theorem pd_neg (h : PD X a ta) : PD X (.UnaryOp .USub a pos) (tdNeg ta) := by
  refine ⟨PE.weak (pe_un un_neg h.pe) fun σ H Q ⟨B, H0, G0, δ, G, R, q⟩ => ⟨B, H0, G0, δ, G, R, h.mono _ _ _ q fun r δ' q v H' G' R' s' f' ok => ?_⟩, fun δ Q Q' q w => h.mono _ _ _ q fun r δ' q => ?_⟩
  · split at q
    · cases ok.1
      exact ⟨_, rfl, q _ _ _ R' s' f' (resOk_dt (.int _))⟩
    · exact q.elim
  · split at q
    · exact w _ _ q
    · exact q
def tdChain (f g : FD2) (ta tb tc : TD) : TD := fun δ Q => ta δ fun r δ1 => match fz r with
  | none => False
  | some d => tb δ1 fun r2 δ2 => match fz r2 with
    | none => False
    | some e => f d e δ2 fun z δ3 => match z with
      | .dt (.bl k) => if k = true then tc δ3 fun r3 δ4 => match fz r3 with
          | none => False
          | some w => g e w δ4 Q
        else Q (.dt (.bl false)) δ3
      | _ => False
theorem chain_run {r r' : R2} {f g : FD2} {K : PySem.W.Frag} (ma : MonoD ta) (mb : MonoD tb) (mc : MonoD tc) (mf : MonoF2 f) (mg : MonoF2 g) (o : OpS K r f) (o' : OpS K r' g) : ∀ σ H Q, tyE K (tdChain f g ta tb tc) σ H Q → tChain r r' (tyE K ta) (tyE K tb) (tyE K tc) σ H Q := by
  intro σ H Q ⟨B, H0, G0, δ, G, R, q⟩
  refine ev_data ma (kk := fun d δ1 => tb δ1 fun r2 δ2 => match fz r2 with
    | none => False
    | some e => f d e δ2 fun z δ3 => match z with
      | .dt (.bl k) => if k = true then tc δ3 fun r3 δ4 => match fz r3 with
          | none => False
          | some w => g e w δ4 (Aft K B H0 G0 H σ G Q)
        else Aft K B H0 G0 H σ G Q (.dt (.bl false)) δ3
      | _ => False) R (ma _ _ _ q fun r δ1 h => ?_) fun d δ1 v H1 G1 R1 s1 f1 hd h => ?_
  · cases e : fz r with
    | none => rw [e] at h; exact h
    | some d => rw [e] at h; exact h
  · refine ev_data mb (kk := fun e δ2 => f d e δ2 fun z δ3 => match z with
      | .dt (.bl k) => if k = true then tc δ3 fun r3 δ4 => match fz r3 with
          | none => False
          | some w => g e w δ4 (Aft K B H0 G0 H σ G Q)
        else Aft K B H0 G0 H σ G Q (.dt (.bl false)) δ3
      | _ => False) R1 (mb _ _ _ h fun r δ1 h => ?_) fun e δ2 w H2 G2 R2 s2 f2 he h2 => ?_
    · cases e : fz r with
      | none => rw [e] at h; exact h
      | some d => rw [e] at h; exact h
    · refine o B H0 G0 H2 σ δ2 G2 v w d e _ R2 (Dd.mono s2 _ _ hd) he (mf _ _ _ _ _ h2 fun z δ3 h3 v3 H3 G3 R3 s3 f3 ok3 => ?_)
      split at h3
      · rename_i k
        cases ok3.1
        refine ⟨k, rfl, ?_⟩
        cases k with
        | false => exact h3 _ _ _ R3 ((s1.trans s2).trans s3) ((f1.trans f2).trans f3) (resOk_dt (.bl _))
        | true =>
          refine ev_data mc (kk := fun w δ4 => g e w δ4 (Aft K B H0 G0 H σ G Q)) R3 (mc _ _ _ h3 fun r δ1 h => ?_) fun y δ4 w4 H4 G4 R4 s4 f4 hy h4 => ?_
          · cases e : fz r with
            | none => rw [e] at h; exact h
            | some d => rw [e] at h; exact h
          · exact o' B H0 G0 H4 σ δ4 G4 w w4 e y Q R4 (Dd.mono (s3.trans s4) _ _ he) hy (mg _ _ _ _ _ h4 (aft_step (((s1.trans s2).trans s3).trans s4) (((f1.trans f2).trans f3).trans f4)))
      · exact h3.elim
theorem pd_chain {op op' : CmpOp} {r r' : R2} {f g : FD2} (ho : OpR X (compareOp op) r) (ho' : OpR X (compareOp op') r') (mf : MonoF2 f) (mg : MonoF2 g) (o : OpS X.K r f) (o' : OpS X.K r' g) (ha : PD X a ta) (hb : PD X b tb) (hc : PD X c tc)
    (hm : lastMarks [op, op'] [b, c] = false := by with_unfolding_all rfl) : PD X (.Compare a [op, op'] [b, c] pos) (tdChain f g ta tb tc) := by
  refine ⟨PE.weak (pe_chain ho ho' ha.pe hb.pe hc.pe hm) (chain_run ha.mono hb.mono hc.mono mf mg o o'), fun δ Q Q' q w => ?_⟩
  refine ha.mono _ _ _ q fun r δ1 h => ?_
  cases e : fz r with
  | none => rw [e] at h; exact h
  | some d =>
    rw [e] at h
    refine hb.mono _ _ _ h fun r2 δ2 h2 => ?_
    cases e2 : fz r2 with
    | none => rw [e2] at h2; exact h2
    | some e' =>
      rw [e2] at h2
      refine mf _ _ _ _ _ h2 fun z δ3 h3 => ?_
      split at h3
      · rename_i k
        cases k with
        | false => exact w _ _ h3
        | true =>
          refine hc.mono _ _ _ h3 fun r3 δ4 h4 => ?_
          cases e4 : fz r3 with
          | none => rw [e4] at h4; exact h4
          | some y => rw [e4] at h4; exact mg _ _ _ _ _ h4 w
      · exact h3
end
end DL
set_option Elab.async false
set_option linter.all false
set_option maxRecDepth 100000
set_option maxHeartbeats 2000000
namespace DL
open PySem PySem.Spec PyProof.Rows L2
def ArgOk (K : PySem.W.Frag) (B : Bg K) (G : Hp) (v : V) : Sl → Prop
  | .dt d => Dd K G v d
  | .bag => ∃ b c, (b, Cell.bag c) ∈ B ∧ v = .ref b
  | .cnt => ∃ b, (b, Cell.cnt) ∈ B ∧ v = .ref b
  | _ => False
def ArgsOk (K : PySem.W.Frag) (B : Bg K) (G : Hp) : List V → List Sl → Prop
  | [], [] => True
  | v :: vs, r :: rs => ArgOk K B G v r ∧ ArgsOk K B G vs rs
  | _, _ => False
def az : Sl → Option Sl
  | .bag => some .bag
  | .cnt => some .cnt
  | s => (fz s).map .dt
section
variable {K : PySem.W.Frag} {B : Bg K} {H0 G0 H H' G G' : Hp} {σ : L2.St} {δ : List Sl}
theorem ArgOk.mono (e : Same G G') {v : V} {r : Sl} (h : ArgOk K B G v r) : ArgOk K B G' v r := by
  cases r <;> first | exact Dd.mono e _ _ h | exact h
theorem ArgsOk.mono (e : Same G G') : ∀ {vs : List V} {rs : List Sl}, ArgsOk K B G vs rs → ArgsOk K B G' vs rs
  | [], [], _ => trivial
  | _ :: _, _ :: _, h => ⟨h.1.mono e, ArgsOk.mono e h.2⟩
  | [], _ :: _, h => h.elim
  | _ :: _, [], h => h.elim
theorem ArgsOk.len : ∀ {vs : List V} {rs : List Sl}, ArgsOk K B G vs rs → vs.length = rs.length
  | [], [], _ => rfl
  | _ :: _, _ :: _, h => by simp [ArgsOk.len h.2]
  | [], _ :: _, h => h.elim
  | _ :: _, [], h => h.elim
theorem freezeA (R : Rel K B H0 G0 H σ δ G) {v : V} {r r' : Sl} (ok : ResOk K B H0 H σ δ G v r) (h : az r = some r') : ∃ G', Rel K B H0 G0 H σ δ G' ∧ Same G G' ∧ ArgOk K B G' v r' := by
  cases r with
  | bag => cases h; exact ⟨G, R, Same.refl _, ok.1⟩
  | cnt => cases h; exact ⟨G, R, Same.refl _, ok.1⟩
  | xcp _ _ _ _ _ => cases h
  | fn _ _ _ _ _ => cases h
  | tb _ _ => cases h
  | no => cases h
  | hd _ _ _ _ => cases h
  | dt d => cases h; exact ⟨G, R, Same.refl _, ok.1⟩
  | ol ds => cases h; exact freeze R ok rfl
  | oK ks ds => cases h; exact freeze R ok rfl
  | oT ks ds => cases h
  | oI x0 C ks ds => cases h; exact freeze R ok rfl
  | oL x0 ds => cases h; exact freeze R ok rfl
end
abbrev TDA := List Sl → (List Sl → List Sl → Prop) → Prop
def MonoA (t : TDA) : Prop := ∀ δ (Q Q' : List Sl → List Sl → Prop), t δ Q → (∀ r δ', Q r δ' → Q' r δ') → t δ Q'
def AftA (K : PySem.W.Frag) (B : Bg K) (H0 G0 H : Hp) (σ : L2.St) (G : Hp) (Q : List V → Hp → Prop) : List Sl → List Sl → Prop := fun rs δ' => ∀ vs H' G', Rel K B H0 G0 H' σ δ' G' → Same G G' → Fra B H H' → ArgsOk K B G' vs rs → Q vs H'
def tyA (K : PySem.W.Frag) (t : TDA) : TA := fun σ H Q => ∃ B H0 G0 δ G, Rel K B H0 G0 H σ δ G ∧ t δ (AftA K B H0 G0 H σ G Q)
structure PDA (X : Cx) (es : List Expr) (t : TDA) : Prop where
  pa : PA X es (tyA X.K t)
  mono : MonoA t
theorem PA.weak {X : Cx} {es : List Expr} {t t' : TA} (h : PA X es t) (w : ∀ σ H Q, t' σ H Q → t σ H Q) : PA X es t' := ⟨fun pos pins s σ H Q I q => h.run pos pins s σ H Q I (w σ H Q q)⟩
def tdNil : TDA := fun δ Q => Q [] δ
def tdCons (ta : TD) (tr : TDA) : TDA := fun δ Q => ta δ fun r δ1 => match az r with
  | none => False
  | some r' => tr δ1 fun rs δ2 => Q (r' :: rs) δ2
section
variable {X : Cx} {e a b c : Expr} {es : List Expr} {pos p : Pos} {ta tb tc : TD} {u : TDA}
theorem pda_nil : PDA X [] tdNil := ⟨PA.weak pa_nil fun σ H Q ⟨B, H0, G0, δ, G, R, q⟩ => q [] H G R (Same.refl _) (Fra.refl _ _) trivial, fun _ _ _ q w => w _ _ q⟩
theorem pda_cons (h : PD X e ta) (k : PDA X es u) (hs : starEach (e :: es) X.env = (false, eval e X.env) :: starEach es X.env := by rfl) : PDA X (e :: es) (tdCons ta u) := by
  refine ⟨PA.weak (pa_cons h.pe k.pa hs) fun σ H Q ⟨B, H0, G0, δ, G, R, q⟩ => ⟨B, H0, G0, δ, G, R, h.mono _ _ _ q fun r δ1 q v H1 G1 R1 s1 f1 ok => ?_⟩, fun δ Q Q' q w => h.mono _ _ _ q fun r δ1 q => ?_⟩
  · cases ea : az r with
    | none => rw [ea] at q; exact q.elim
    | some r' =>
      rw [ea] at q
      obtain ⟨G2, R2, s2, ha⟩ := freezeA R1 ok ea
      exact ⟨B, H0, G0, δ1, G2, R2, k.mono _ _ _ q fun rs δ2 q vs H3 G3 R3 s3 f3 oks => q (v :: vs) H3 G3 R3 ((s1.trans s2).trans s3) (f1.trans f3) ⟨ha.mono s3, oks⟩⟩
  · cases ea : az r with
    | none => rw [ea] at q; exact q
    | some r' => rw [ea] at q; exact k.mono _ _ _ q fun rs δ2 q => w _ _ q
def datas : List Sl → Option (List D)
  | [] => some []
  | .dt d :: rs => match datas rs with
    | some ds => some (d :: ds)
    | none => none
  | _ :: _ => none
theorem datas_ok {K : PySem.W.Frag} {B : Bg K} {G : Hp} : ∀ {vs : List V} {rs : List Sl} {ds : List D}, ArgsOk K B G vs rs → datas rs = some ds → DdA K G vs ds
  | [], [], _, _, e => by cases e; exact .nil
  | v :: vs, .dt d :: rs, _, h, e => by
    unfold datas at e
    split at e
    · rename_i ds' e'
      cases e
      exact .cons h.1 (datas_ok h.2 e')
    · cases e
  | _ :: _, .no :: _, _, h, _ => h.1.elim
  | _ :: _, .hd _ _ _ _ :: _, _, h, _ => h.1.elim
  | _ :: _, .bag :: _, _, h, e => by cases e
  | _ :: _, .cnt :: _, _, h, e => by cases e
  | _ :: _, .xcp _ _ _ _ _ :: _, _, h, _ => h.1.elim
  | _ :: _, (.fn _ _ _ _ _) :: _, _, h, _ => h.1.elim
  | _ :: _, .tb _ _ :: _, _, h, _ => h.1.elim
  | _ :: _, .ol _ :: _, _, h, _ => h.1.elim
  | _ :: _, .oK _ _ :: _, _, h, _ => h.1.elim
  | _ :: _, .oT _ _ :: _, _, h, _ => h.1.elim
  | _ :: _, .oI _ _ _ _ :: _, _, h, _ => h.1.elim
  | _ :: _, .oL _ _ :: _, _, h, _ => h.1.elim
  | [], _ :: _, _, h, _ => h.elim
  | _ :: _, [], _, h, _ => h.elim
def tdLst (t : TDA) : TD := fun δ Q => t δ fun rs δ' => match datas rs with
  | some ds => ds.length ≤ sizeLine ∧ Q (.ol ds) δ'
  | none => False
def tdTup (t : TDA) : TD := fun δ Q => t δ fun rs δ' => match datas rs with
  | some ds => ds.length ≤ sizeLine ∧ Q (.dt (.tup ds)) δ'
  | none => False
theorem aftUp {K : PySem.W.Frag} {B : Bg K} {H0 G0 H H1 : Hp} {σ : L2.St} {G G1 : Hp} {Q : VK} {r : Sl} {δ' : List Sl} (q : Aft K B H0 G0 H σ G Q r δ') (sG : Same G G1) (fr : Fra B H H1) : Aft K B H0 G0 H1 σ G1 Q r δ' := aft_step sG fr r δ' q
theorem pd_lst (h : PDA X es u) : PD X (.List es pos) (tdLst u) := by
  refine ⟨PE.weak (pe_lst h.pa) fun σ H Q ⟨B, H0, G0, δ, G, R, q⟩ => ⟨B, H0, G0, δ, G, R, h.mono _ _ _ q fun rs δ1 q vs H1 G1 R1 s1 f1 oks => ?_⟩, fun δ Q Q' q w => h.mono _ _ _ q fun rs δ1 q => ?_⟩
  · cases ed : datas rs with
    | none => rw [ed] at q; exact q.elim
    | some ds =>
      rw [ed] at q
      have hd := datas_ok oks ed
      have z := q.1
      rw [← hd.len] at z
      exact ⟨z, fun p hp => aft_own (s := .ol ds) R1 hp z rfl ⟨_, upd_same, hd⟩ (aftUp q.2 s1 f1)⟩
  · cases ed : datas rs with
    | none => rw [ed] at q; exact q
    | some ds => rw [ed] at q; exact ⟨q.1, w _ _ q.2⟩
theorem pd_tup {x1} (h : PDA X es u) : PD X (.Tuple es x1 pos) (tdTup u) := by
  refine ⟨PE.weak (pe_tup h.pa) fun σ H Q ⟨B, H0, G0, δ, G, R, q⟩ => ⟨B, H0, G0, δ, G, R, h.mono _ _ _ q fun rs δ1 q vs H1 G1 R1 s1 f1 oks => ?_⟩, fun δ Q Q' q w => h.mono _ _ _ q fun rs δ1 q => ?_⟩
  · cases ed : datas rs with
    | none => rw [ed] at q; exact q.elim
    | some ds =>
      rw [ed] at q
      have hd := datas_ok oks ed
      have z := q.1
      rw [← hd.len] at z
      refine ⟨z, fun p hp => ?_⟩
      have gp := R1.sub.free hp
      have sG : Same G1 (upd G1 p (.tup vs)) := fun b x e => by rw [upd_ne (ne_of_none e gp)]; exact e
      exact aft_laid R1 hp z (.tup (.inl upd_same) (DdA.mono sG _ _ hd)) (aftUp q.2 s1 f1)
  · cases ed : datas rs with
    | none => rw [ed] at q; exact q
    | some ds => rw [ed] at q; exact ⟨q.1, w _ _ q.2⟩
def tdDK : TD := fun δ Q => Q (.oK [] []) δ
theorem pd_dK : PD X (.Dict [] [] pos) tdDK :=
  ⟨PE.weak pe_dnewK fun σ H Q ⟨B, H0, G0, δ, G, R, q⟩ p hp => aft_own (s := .oK [] []) R hp (Nat.zero_le _) rfl ⟨[], rfl, upd_same, .nil⟩ q, fun _ _ _ q w => w _ _ q⟩
abbrev FDC := List Sl → List Sl → QD → Prop
def MonoC (f : FDC) : Prop := ∀ rs δ (Q Q' : QD), f rs δ Q → (∀ r δ', Q r δ' → Q' r δ') → f rs δ Q'
def CallS (K : PySem.W.Frag) (r : List V → Hp → VK → Prop) (f : FDC) : Prop := ∀ (B : Bg K) (H0 G0 H : Hp) (σ : L2.St) (δ : List Sl) (G : Hp) (vs : List V) (rs : List Sl) (Q : VK),
  Rel K B H0 G0 H σ δ G → ArgsOk K B G vs rs → f rs δ (Aft K B H0 G0 H σ G Q) → r vs H Q
def tdCB (f : FDC) (t : TDA) : TD := fun δ Q => t δ fun rs δ' => f rs δ' Q
theorem pd_cb {r : List V → Hp → VK → Prop} {f : FDC} (mf : MonoC f) (o : CallS X.K r f) (h : PDA X es u) (rule : PE X e (tCB r (tyA X.K u))) : PD X e (tdCB f u) :=
  ⟨PE.weak rule fun σ H Q ⟨B, H0, G0, δ, G, R, q⟩ => ⟨B, H0, G0, δ, G, R, h.mono _ _ _ q fun rs δ1 q vs H1 G1 R1 s1 f1 oks => o B H0 G0 H1 σ δ1 G1 vs rs Q R1 oks (mf _ _ _ _ q (aft_step s1 f1))⟩,
    fun δ Q Q' q w => h.mono _ _ _ q fun rs δ1 q => mf _ _ _ _ q w⟩
theorem pd_callB {id : String} {x : Str} {r : List V → Hp → VK → Prop} {f : FDC} (hc : CallR X (.builtin id) r) (mf : MonoC f) (o : CallS X.K r f) (hg : Gl X x) (hm : X.mg x = none) (hv : bootBuiltins x = some (.builtin id)) (h : PDA X (e :: es) u)
    (hn : x ≠ "__name__" := by decide) (hdb : (x == ("__debug__" : Str)) = false := by decide) (he : starEach (e :: es) X.env = (false, eval e X.env) :: starEach es X.env := by rfl) (hpl : (backTo pos (starEach es X.env)).any (·.1) = false := by rfl) :
    PD X (.Call (.Name x p) (e :: es) [] pos) (tdCB f u) := pd_cb mf o h (pe_callB hc hg hm hv h.pa hn hdb he hpl)
theorem pd_callTy {T : String} {x : Str} {r : List V → Hp → VK → Prop} {f : FDC} (hc : CallR X (.type T) r) (mf : MonoC f) (o : CallS X.K r f) (hg : Gl X x) (hm : X.mg x = none) (hv : bootBuiltins x = some (.type T)) (h : PDA X (e :: es) u)
    (hn : x ≠ "__name__" := by decide) (hdb : (x == ("__debug__" : Str)) = false := by decide) (he : starEach (e :: es) X.env = (false, eval e X.env) :: starEach es X.env := by rfl) (hpl : (backTo pos (starEach es X.env)).any (·.1) = false := by rfl) :
    PD X (.Call (.Name x p) (e :: es) [] pos) (tdCB f u) := pd_cb mf o h (pe_callTy hc hg hm hv h.pa hn hdb he hpl)
theorem callR_or {g : Value} {r1 r2 : List V → Hp → VK → Prop} (h1 : CallR X g r1) (h2 : CallR X g r2) : CallR X g (fun xs H Q => r1 xs H Q ∨ r2 xs H Q) := by
  intro pins s σ H xs us Q I r h
  rcases h with h | h
  · exact h1 pins s σ H xs us Q I r h
  · exact h2 pins s σ H xs us Q I r h
def f1 (g : D → List Sl → QD → Prop) : FDC := fun rs δ Q => match rs with
  | [.dt d] => g d δ Q
  | _ => False
theorem mono_f1 {g : D → List Sl → QD → Prop} (h : ∀ d δ (Q Q' : QD), g d δ Q → (∀ r δ', Q r δ' → Q' r δ') → g d δ Q') : MonoC (f1 g) := fun rs δ Q Q' q w => by
  unfold f1 at q ⊢
  split at q
  · exact h _ _ _ _ q w
  · exact q
theorem arg1 {K : PySem.W.Frag} {B : Bg K} {G : Hp} : ∀ {vs : List V} {d : D}, ArgsOk K B G vs [.dt d] → ∃ v, vs = [v] ∧ Dd K G v d
  | [], _, h => h.elim
  | [v], _, h => ⟨v, rfl, h.1⟩
  | _ :: _ :: _, _, h => h.2.elim
theorem callS_1 {K : PySem.W.Frag} {r : List V → Hp → VK → Prop} {g : D → List Sl → QD → Prop}
    (o : ∀ (B : Bg K) (H0 G0 H : Hp) (σ : L2.St) (δ : List Sl) (G : Hp) (v : V) (d : D) (Q : VK), Rel K B H0 G0 H σ δ G → Dd K G v d → g d δ (Aft K B H0 G0 H σ G Q) → r [v] H Q) : CallS K r (f1 g) := by
  intro B H0 G0 H σ δ G vs rs Q R oks q
  unfold f1 at q
  split at q
  · obtain ⟨v, rfl, hd⟩ := arg1 oks
    exact o _ _ _ _ _ _ _ _ _ _ R hd q
  · exact q.elim
def gLen : D → List Sl → QD → Prop := fun d δ Q => match d with
  | .lst xs => Q (.dt (.int xs.length)) δ
  | .tup xs => Q (.dt (.int xs.length)) δ
  | .str x => x.length ≤ sizeLine ∧ Q (.dt (.int x.length)) δ
  | .dK ks _ => Q (.dt (.int ks.length)) δ
  | .dT ks _ => Q (.dt (.int ks.length)) δ
  | .dL ks _ => Q (.dt (.int ks.length)) δ
  | _ => False
theorem mono_len : MonoC (f1 gLen) := mono_f1 fun d δ Q Q' q w => by
  unfold gLen at q ⊢
  split at q <;> first | exact w _ _ q | exact ⟨q.1, w _ _ q.2⟩ | exact q
abbrev rLenX (X : Cx) : List V → Hp → VK → Prop := fun xs H Q => (∃ x n, xs = [x] ∧ LenV X.K x H n ∧ Q (.int n) H) ∨ (∃ a, xs = [.ref a] ∧ ((∃ kvs, Rd H a (.dK kvs) ∧ Q (.int kvs.length) H) ∨ ∃ kvs, Rd H a (.dT kvs) ∧ Q (.int kvs.length) H))
end
end DL
set_option Elab.async false
set_option linter.all false
set_option maxRecDepth 100000
set_option maxHeartbeats 2000000
namespace DL
open PySem PySem.Spec PyProof.Rows L2
section
variable {X : Cx} {e a b c : Expr} {es : List Expr} {pos p : Pos} {ta tb tc : TD} {u : TDA}
theorem call_lenDT : CallR X (.builtin "len") (fun xs H Q => ∃ a, xs = [V.ref a] ∧ ((∃ kvs, Rd H a (.dK kvs) ∧ Q (.int kvs.length) H) ∨ ∃ kvs, Rd H a (.dT kvs) ∧ Q (.int kvs.length) H)) := by
  intro pins s σ H vs us Q I r h
  obtain ⟨a, rfl, h⟩ := h
  rw [Vals.ref1 r]
  rcases h with ⟨kvs, e, q⟩ | ⟨kvs, e, q⟩
  · exact d_len I e fun t s' I' => ⟨.int _, H, I', ⟨t, rfl⟩, q⟩
  · obtain ⟨z, hd, xs, rel, dd⟩ := dt_rd I.hok e
    have el : xs.length = kvs.length := rel.length.symm
    refine call_len_dictH hd dd (by rw [el]; rw [sizeLine_eq] at z; omega) ?_
    rw [el]
    exact ⟨.int _, H, I.tok _, ⟨_, rfl⟩, q⟩
theorem callR_len : CallR X (.builtin "len") (rLenX X) := callR_or call_len call_lenDT
theorem callS_len : CallS X.K (rLenX X) (f1 gLen) := callS_1 fun B H0 G0 H σ δ G v d Q R hd q => by
  unfold gLen at q
  split at q
  · cases hd with
    | lst h1 h2 => exact .inl ⟨_, _, rfl, .inl ⟨_, SqL.of (R.sub _ _ h1), rfl⟩, aft_here R (.int _) (h2.len ▸ q)⟩
  · cases hd with
    | tup h1 h2 => exact .inl ⟨_, _, rfl, .inr ⟨_, sameT R.sub h1, rfl⟩, aft_here R (.int _) (h2.len ▸ q)⟩
  · cases hd
    exact .inl ⟨_, _, rfl, ⟨q.1, rfl⟩, aft_here R (.int _) q.2⟩
  · cases hd with
    | @dK a ks' xs ds h0 h1 h2 =>
      rename_i ks _
      refine .inr ⟨_, rfl, .inl ⟨_, rdS R.sub h1, ?_⟩⟩
      have z : (ks.zip xs).length = ks.length := by rw [List.length_zip, ← h0, Nat.min_self]
      rw [z]
      exact aft_here R (.int _) q
  · cases hd with
    | @dT a od ks' xs ds h0 h1 h2 =>
      rename_i ks _
      refine .inr ⟨_, rfl, .inr ⟨_, .inr ⟨_, R.sub _ _ h1⟩, ?_⟩⟩
      have z : (ks.zip xs).length = ks.length := by rw [List.length_zip, ← h0, Nat.min_self]
      rw [z]
      exact aft_here R (.int _) q
  · cases hd with
    | @dL a od ks' xs ds h0 h1 h2 =>
      rename_i ks _
      refine .inr ⟨_, rfl, .inl ⟨_, .inr ⟨_, R.sub _ _ h1⟩, ?_⟩⟩
      have z : (ks.zip xs).length = ks.length := by rw [List.length_zip, ← h0, Nat.min_self]
      rw [z]
      exact aft_here R (.int _) q
  · exact q.elim
theorem pd_len (hg : Gl X "len") (hm : X.mg "len" = none) (h : PDA X [e] u) (he : starEach [e] X.env = (false, eval e X.env) :: starEach [] X.env := by rfl) (hpl : (backTo pos (starEach [] X.env)).any (·.1) = false := by rfl) :
    PD X (.Call (.Name "len" p) [e] [] pos) (tdCB (f1 gLen) u) := pd_callB callR_len mono_len callS_len hg hm PySem.boot_len h (by decide) (by decide) he hpl
theorem boot_abs' : bootBuiltins "abs" = some (.builtin "abs") := by decide +kernel
end
theorem Dd.size {K : PySem.W.Frag} {B : Bg K} {H0 G0 H : Hp} {σ : L2.St} {δ : List Sl} {G : Hp} (R : Rel K B H0 G0 H σ δ G) {v : V} {xs : List D} (h : Dd K G v (.lst xs)) : xs.length ≤ sizeLine := by
  cases h with
  | lst h1 h2 => rw [← h2.len]; exact R.sz _ _ (R.sub _ _ h1)
theorem boot_list' : bootBuiltins "list" = some (.type "list") := by decide +kernel
theorem boot_tuple' : bootBuiltins "tuple" = some (.type "tuple") := by decide +kernel
theorem boot_repr' : bootBuiltins "repr" = some (.builtin "repr") := by decide +kernel
theorem boot_isi' : bootBuiltins "isinstance" = some (.builtin "isinstance") := by decide +kernel
section
variable {X : Cx} {e a b c : Expr} {es : List Expr} {pos p : Pos} {ta tb tc : TD} {u : TDA}
theorem pd_list (hg : Gl X "list") (hm : X.mg "list" = none) (h : PDA X [e] u) (he : starEach [e] X.env = (false, eval e X.env) :: starEach [] X.env := by rfl) (hpl : (backTo pos (starEach [] X.env)).any (·.1) = false := by rfl) :
    PD X (.Call (.Name "list" p) [e] [] pos) (tdCB (f1 fun d δ Q => match seqOf d with | some xs => xs.length ≤ sizeLine ∧ Q (.ol xs) δ | none => False) u) :=
  pd_callTy call_list_of (mono_f1 fun d δ Q Q' q w => by split at q <;> first | exact ⟨q.1, w _ _ q.2⟩ | exact q)
    (callS_1 fun B H0 G0 H σ δ G v d Q R hd q => by
      split at q
      · rename_i xs e1
        obtain ⟨a, ws, rfl, hq, hA⟩ := seqOf_ok R hd e1
        have z := q.1
        rw [← hA.len] at z
        exact ⟨a, ws, rfl, hq, fun l hl => aft_own (s := .ol xs) R hl z rfl ⟨_, upd_same, hA⟩ q.2⟩
      · exact q.elim) hg hm boot_list' h (by decide) (by decide) he hpl
theorem pd_tuple (hg : Gl X "tuple") (hm : X.mg "tuple" = none) (h : PDA X [e] u) (he : starEach [e] X.env = (false, eval e X.env) :: starEach [] X.env := by rfl) (hpl : (backTo pos (starEach [] X.env)).any (·.1) = false := by rfl) :
    PD X (.Call (.Name "tuple" p) [e] [] pos) (tdCB (f1 fun d δ Q => match seqOf d with | some xs => Q (.dt (.tup xs)) δ | none => False) u) :=
  pd_callTy call_tuple_of (mono_f1 fun d δ Q Q' q w => by split at q <;> first | exact w _ _ q | exact q)
    (callS_1 fun B H0 G0 H σ δ G v d Q R hd q => by
      split at q
      · rename_i xs e1
        cases hd <;> first | cases e1 | skip
        · rename_i a vs h1 h2
          refine ⟨a, vs, rfl, .inl ⟨SqL.of (R.sub _ _ h1), fun l hl => ?_⟩⟩
          have gl := R.sub.free hl
          have sG : Same G (upd G l (.tup vs)) := fun b x e => by rw [upd_ne (ne_of_none e gl)]; exact e
          exact aft_laid R hl (show vs.length ≤ sizeLine from R.sz _ _ (R.sub _ _ h1)) (.tup (.inl upd_same) (DdA.mono sG _ _ h2)) q
        · rename_i a vs h1 h2
          exact ⟨a, vs, rfl, .inr ⟨sameT R.sub h1, aft_here R (.tup h1 h2) q⟩⟩
      · exact q.elim) hg hm boot_tuple' h (by decide) (by decide) he hpl
end
inductive Ty where | int | bool | str | list | tuple | dict
def Ty.name : Ty → String
  | .int => "int" | .bool => "bool" | .str => "str" | .list => "list" | .tuple => "tuple" | .dict => "dict"
def tyName : D → String
  | .non => "NoneType" | .bl _ => "bool" | .int _ => "int" | .str _ => "str" | .lst _ => "list" | .tup _ => "tuple" | .dK _ _ => "dict" | .dT _ _ => "dict" | .dL _ _ => "dict" | .ins _ _ _ => ""
def isTy : Ty → D → Bool
  | .int, .int _ => true
  | .int, .bl _ => true
  | .bool, .bl _ => true
  | .str, .str _ => true
  | .list, .lst _ => true
  | .tuple, .tup _ => true
  | .dict, .dK _ _ => true
  | .dict, .dT _ _ => true
  | .dict, .dL _ _ => true
  | _, _ => false
def D.isIns : D → Bool
  | .ins _ _ _ => true
  | .dT _ _ => true
  | .dL _ _ => true
  | _ => false
theorem kit_isTy (T : Ty) (d : D) (h : d.isIns = false) : kitB (tyName d) T.name = some (isTy T d) := by
  cases T <;> cases d <;> first | (cases h; done) | skip
  all_goals kernel_rfl
theorem tyX_of {K : PySem.W.Frag} {B : Bg K} {H0 G0 H : Hp} {σ : L2.St} {δ : List Sl} {G : Hp} (R : Rel K B H0 G0 H σ δ G) {v : V} {d : D} (h : Dd K G v d) (hi : d.isIns = false) : TyX K H v (.type (tyName d)) := by
  cases h with
  | non => exact .base .non
  | bl b => exact .base (.bl b)
  | int i => exact .base (.int i)
  | str x => exact .base (.str x)
  | lst h1 h2 => exact .base (.lst (R.sub _ _ h1))
  | tup h1 h2 =>
    rcases h1 with h1 | ⟨(h1 | ⟨o, h1⟩) | ⟨o, its, n, hk, hc, _⟩, _⟩
    · exact .base (.tup (R.sub _ _ h1))
    · cases h1
    · cases h1
    · exact .kTuple hk hc
  | dK h0 h1 h2 =>
    rcases h1 with h1 | ⟨o, h1⟩
    · exact .base (.dK (R.sub _ _ h1))
    · exact .fDict (R.sub _ _ h1)
  | dT h0 h1 h2 => cases hi
  | dL h0 h1 h2 => cases hi
  | ins h0 h1 h2 => cases hi
def tdIsi (T : Ty) (ta : TD) : TD := fun δ Q => ta δ fun r δ' => match fz r with
  | some d => d.isIns = false ∧ Q (.dt (.bl (isTy T d))) δ'
  | none => False
section
variable {X : Cx} {e a b c : Expr} {es : List Expr} {pos p : Pos} {ta tb tc : TD} {u : TDA}
theorem pd_isi (T : Ty) {x : Str} {p2 : Pos} (hg : Gl X "isinstance") (hm : X.mg "isinstance" = none) (hgx : Gl X x) (hmx : X.mg x = none) (hvx : bootBuiltins x = some (.type T.name)) (h : PD X e ta)
    (hn : x ≠ "__name__" := by decide) (hdx : (x == ("__debug__" : Str)) = false := by decide)
    (hs1 : starEach [.Name x p2] X.env = (false, eval (.Name x p2) X.env) :: starEach [] X.env := by rfl) (he : starEach [e, .Name x p2] X.env = (false, eval e X.env) :: starEach [.Name x p2] X.env := by rfl) (hpl : (backTo pos (starEach [.Name x p2] X.env)).any (·.1) = false := by rfl) :
    PD X (.Call (.Name "isinstance" p) [e, .Name x p2] [] pos) (tdIsi T ta) := by
  have rule := pe_callB (X := X) (p := p) (pos := pos) call_isi hg hm boot_isi' (pa_cons h.pe (pa_cons (pe_bltn (pos := p2) (v := .ty T.name) hgx hmx hvx rfl hn hdx) pa_nil hs1) he) (by decide) (by decide) he hpl
  refine ⟨PE.weak rule fun σ H Q ⟨B, H0, G0, δ, G, R, q⟩ => ?_, fun δ Q Q' q w => h.mono _ _ _ q fun r δ' q => ?_⟩
  · refine ev_data h.mono (kk := fun d δ' => d.isIns = false ∧ Aft X.K B H0 G0 H σ G Q (.dt (.bl (isTy T d))) δ') R q fun d δ1 v H1 G1 R1 s1 f1 hd hq => ?_
    exact ⟨v, .ty T.name, _, _, isTy T d, rfl, .ty _, tyX_of R1 hd hq.1, kit_ty (kit_isTy T d hq.1), aft_here R1 (.bl _) (aftUp hq.2 s1 f1)⟩
  · cases e : fz r with
    | none => rw [e] at q; exact q
    | some d => rw [e] at q; exact ⟨q.1, w _ _ q.2⟩
end
def cutL {α : Type} (xs : List α) (lo hi : Option Int) : List α := (xs.drop (HT.sIx xs.length 0 lo)).take (HT.sIx xs.length xs.length hi - HT.sIx xs.length 0 lo)
theorem cutL_V (xs : List V) (lo hi : Option Int) : cutV xs lo hi = cutL xs lo hi := rfl
theorem cut_ok {K : PySem.W.Frag} {G : Hp} {vs : List V} {ds : List D} (h : DdA K G vs ds) (lo hi : Option Int) : DdA K G (cutV vs lo hi) (cutL ds lo hi) := by
  unfold cutV cutL
  rw [h.len]
  exact (h.drop _).take _
theorem cutL_all {α : Type} {xs : List α} {lo hi : Option Int} (h1 : HT.sIx xs.length 0 lo = 0) (h2 : HT.sIx xs.length xs.length hi = xs.length) : cutL xs lo hi = xs := by
  unfold cutL
  rw [h1, h2]
  simp
abbrev TDO := List Sl → (Option Int → List Sl → Prop) → Prop
def MonoO (t : TDO) : Prop := ∀ δ (Q Q' : Option Int → List Sl → Prop), t δ Q → (∀ b δ', Q b δ' → Q' b δ') → t δ Q'
def AftO (K : PySem.W.Frag) (B : Bg K) (H0 G0 H : Hp) (σ : L2.St) (G : Hp) (Q : Option Int → Hp → Prop) : Option Int → List Sl → Prop := fun b δ' => ∀ H' G', Rel K B H0 G0 H' σ δ' G' → Same G G' → Fra B H H' → Q b H'
def tyO (K : PySem.W.Frag) (t : TDO) : TO := fun σ H Q => ∃ B H0 G0 δ G, Rel K B H0 G0 H σ δ G ∧ t δ (AftO K B H0 G0 H σ G Q)
structure PDO (X : Cx) (e : Option Expr) (t : TDO) : Prop where
  po : PO X e (tyO X.K t)
  mono : MonoO t
theorem PO.weak {X : Cx} {e : Option Expr} {t t' : TO} (h : PO X e t) (w : ∀ σ H Q, t' σ H Q → t σ H Q) : PO X e t' := ⟨fun pins s σ H Q I q => h.run pins s σ H Q I (w σ H Q q)⟩
def tdNoP : TDO := fun δ Q => Q none δ
def tdPart (t : TD) : TDO := fun δ Q => t δ fun r δ' => match r with
  | .dt (.int i) => Q (some i) δ'
  | _ => False
abbrev FSl := D → Option Int → Option Int → List Sl → QD → Prop
def fSl : FSl := fun d lo hi δ Q => match d with
  | .lst xs => Q (.ol (cutL xs lo hi)) δ
  | .tup xs => Q (.dt (.tup (cutL xs lo hi))) δ
  | .str z => z.length ≤ sizeLine ∧ Q (.dt (.str (cutS z lo hi))) δ
  | _ => False
def tdSl (ta : TD) (tl th : TDO) : TD := fun δ Q => ta δ fun r δ1 => match fz r with
  | none => False
  | some d => tl δ1 fun l δ2 => th δ2 fun h δ3 => fSl d l h δ3 Q
section
variable {X : Cx} {e a b c : Expr} {lo hi : Option Expr} {es : List Expr} {pos p p2 : Pos} {ta tb tc : TD} {tl th : TDO}
theorem pdo_none : PDO X none tdNoP := ⟨PO.weak po_none fun σ H Q ⟨B, H0, G0, δ, G, R, q⟩ => q H G R (Same.refl _) (Fra.refl _ _), fun _ _ _ q w => w _ _ q⟩
theorem pdo_some (h : PD X e ta) : PDO X (some e) (tdPart ta) := by
  refine ⟨PO.weak (po_some h.pe) fun σ H Q ⟨B, H0, G0, δ, G, R, q⟩ => ⟨B, H0, G0, δ, G, R, h.mono _ _ _ q fun r δ1 q v H1 G1 R1 s1 f1 ok => ?_⟩, fun δ Q Q' q w => h.mono _ _ _ q fun r δ1 q => ?_⟩
  · split at q
    · cases ok.1
      exact ⟨_, rfl, q H1 G1 R1 s1 f1⟩
    · exact q.elim
  · split at q
    · exact w _ _ q
    · exact q
theorem mono_fSl {d : D} {lo hi : Option Int} {δ : List Sl} {Q Q' : QD} (q : fSl d lo hi δ Q) (w : ∀ r δ', Q r δ' → Q' r δ') : fSl d lo hi δ Q' := by
  unfold fSl at q ⊢
  split at q <;> first | exact w _ _ q | exact ⟨q.1, w _ _ q.2⟩ | exact q
theorem pd_slice (ha : PD X e ta) (hl : PDO X lo tl) (hh : PDO X hi th) : PD X (.Subscript e (.Slice lo hi none p2) pos) (tdSl ta tl th) := by
  have rule := pe_slice (pos := pos) (p2 := p2) (sl_list.or (sl_tupA.or sl_str)) ha.pe hl.po hh.po
  refine ⟨PE.weak rule fun σ H Q ⟨B, H0, G0, δ, G, R, q⟩ => ?_, fun δ Q Q' q w => ha.mono _ _ _ q fun r δ1 q => ?_⟩
  · refine ev_data ha.mono (kk := fun d δ1 => tl δ1 fun l δ2 => th δ2 fun h δ3 => fSl d l h δ3 (Aft X.K B H0 G0 H σ G Q)) R (ha.mono _ _ _ q fun r δ1 h => ?_) fun d δ1 v H1 G1 R1 s1 f1 hd h => ?_
    · cases e : fz r with
      | none => rw [e] at h; exact h
      | some d => rw [e] at h; exact h
    · refine ⟨B, H0, G0, δ1, G1, R1, hl.mono _ _ _ h fun l δ2 h2 H2 G2 R2 s2 f2 => ⟨B, H0, G0, δ2, G2, R2, hh.mono _ _ _ h2 fun u δ3 h3 H3 G3 R3 s3 f3 => ?_⟩⟩
      have hd3 := Dd.mono (s2.trans s3) _ _ hd
      have h3 := mono_fSl h3 (aft_step ((s1.trans s2).trans s3) ((f1.trans f2).trans f3))
      unfold fSl at h3
      split at h3
      · cases hd3 with
        | @lst a vs ds g1 g2 =>
          refine .inl ⟨a, vs, rfl, SqL.of (R3.sub _ _ g1), fun p hp => ?_⟩
          exact aft_own (s := .ol _) R3 hp (Nat.le_trans (cutV_length _ _ _) (R3.sz _ _ (R3.sub _ _ g1))) rfl ⟨_, upd_same, cut_ok g2 l u⟩ h3
      · cases hd3 with
        | @tup a vs ds g1 g2 =>
          refine .inr (.inl ⟨a, vs, rfl, sameT R3.sub g1, fun z => ?_, fun z p hp => ?_⟩)
          · rw [g2.len] at z
            rw [cutL_all z.1 z.2] at h3
            exact aft_here R3 (.tup g1 g2) h3
          · have gp := R3.sub.free hp
            have sG : Same G3 (upd G3 p (.tup (cutV vs l u))) := fun b x e => by rw [upd_ne (ne_of_none e gp)]; exact e
            refine aft_laid R3 hp ?_ (.tup (.inl upd_same) (DdA.mono sG _ _ (cut_ok g2 l u))) h3
            refine Nat.le_trans (cutV_length _ _ _) ?_
            rcases sameT R3.sub g1 with (g | ⟨o, g⟩) | ⟨o, its, n, _, _, _, hz, r⟩
            · exact R3.sz _ _ g
            · exact R3.sz _ _ g
            · rw [r.length, Array.length_toList]; exact hz
      · cases hd3
        exact .inr (.inr ⟨_, rfl, h3.1, aft_here R3 (.str _) h3.2⟩)
      · exact h3.elim
  · cases e : fz r with
    | none => rw [e] at q; exact q
    | some d => rw [e] at q; exact hl.mono _ _ _ q fun l δ2 q => hh.mono _ _ _ q fun h δ3 q => mono_fSl q w
end
end DL
set_option Elab.async false
set_option linter.all false
set_option maxRecDepth 100000
set_option maxHeartbeats 2000000
namespace DL
open PySem PySem.Spec PyProof.Rows L2
abbrev TF := List Sl → (Sl → Prop) → Prop
def MonoF (t : TF) : Prop := ∀ rs (Q Q' : Sl → Prop), t rs Q → (∀ r, Q r → Q' r) → t rs Q'
structure RetOk (K : PySem.W.Frag) (B : Bg K) (H G H' G' : Hp) (v : V) (r : Sl) : Prop where
  gg : Same G G'
  gh : Same G' H'
  bag : ∀ b c, (b, c) ∈ B → BagOk H' G' b c
  fra : Fra B H H'
  sz : HSz H'
  gn : ∀ a o, G' a = some o → G a = some o ∨ N0 (H a)
  val : ValOk K B H' G' v r
  no : r ≠ .no
  own : r.isOwn = true → ∀ a, v = .ref a → H a = none
def spD (K : PySem.W.Frag) (n : Nat) (t : TF) : Sp := fun vs H Q _ => vs.length = n ∧ ∃ B G rs, Same G H ∧ (∀ b c, (b, c) ∈ B → BagOk H G b c) ∧ HSz H ∧ ArgsOk K B G vs rs ∧
  t rs (fun r => ∀ v H' G', RetOk K B H G H' G' v r → Q v H')
def tdCall (t : TF) (u : TDA) : TD := fun δ Q => u δ fun rs δ' => t rs (fun r => Q r δ')
section
variable {K : PySem.W.Frag} {B : Bg K} {H0 G0 H H' G G' : Hp} {σ : L2.St} {δ : List Sl}
theorem Rel.call (R : Rel K B H0 G0 H σ δ G) {v : V} {r : Sl} (k : RetOk K B H G H' G' v r) : Rel K B H0 G0 H' σ δ G' ∧ ResOk K B H0 H' σ δ G' v r := by
  have gN : ∀ i a, Own σ δ i a → G' a = none := fun i a oa => by
    obtain ⟨s, _, _, h⟩ := R.at oa
    obtain ⟨x, hx⟩ := h.there
    cases q : G' a with
    | none => rfl
    | some o =>
      rcases k.gn a o q with z | z
      · rw [(R.own i a oa).2.1] at z; cases z
      · exact (h.nn z).elim
  refine ⟨⟨k.gh, R.g0.trans k.gg, fun a o e n => k.fra a o (R.ent a o e n) n, R.len, fun i s e => ?_, R.sep, fun i a oa => ⟨(R.own i a oa).1, gN i a oa, (R.own i a oa).2.2⟩, k.bag, fun a o e => ?_, k.sz, R.hd.up k.gg fun a o e => ?_⟩, k.val, k.no, fun io a e => ?_⟩
  · rcases R.sl i s e with z | ⟨w, ev, ok⟩
    · exact .inl z
    · refine .inr ⟨w, ev, ?_⟩
      cases s with
      | no => trivial
      | hd _ _ _ _ => exact ok.elim
      | dt d => exact Dd.mono k.gg d w ok
      | bag => exact ok
      | cnt => exact ok
      | xcp _ _ _ _ _ => first | exact ok | exact xcp_mono (by assumption) ok | exact xcp_mono k.gg ok
      | fn _ _ _ _ _ => first | exact ok | exact fn_mono (by assumption) ok | exact fn_mono k.gg ok
      | tb _ _ => exact ok
      | ol ds =>
        obtain ⟨a, ea, ga, h⟩ := ok
        have oa : Own σ δ i a := ⟨ea ▸ ev, _, e, rfl⟩
        exact ⟨a, ea, gN i a oa, h.up (fun o q => k.fra a o q (R.own i a oa).2.2) k.gg⟩
      | oK ks ds =>
        obtain ⟨a, ea, ga, h⟩ := ok
        have oa : Own σ δ i a := ⟨ea ▸ ev, _, e, rfl⟩
        exact ⟨a, ea, gN i a oa, h.up (fun o q => k.fra a o q (R.own i a oa).2.2) k.gg⟩
      | oT ks ds =>
        obtain ⟨a, ea, ga, h⟩ := ok
        have oa : Own σ δ i a := ⟨ea ▸ ev, _, e, rfl⟩
        exact ⟨a, ea, gN i a oa, h.up (fun o q => k.fra a o q (R.own i a oa).2.2) k.gg⟩
      | oI x0 C ks ds =>
        obtain ⟨a, ea, ga, h⟩ := ok
        have oa : Own σ δ i a := ⟨ea ▸ ev, _, e, rfl⟩
        exact ⟨a, ea, gN i a oa, h.up (fun o q => k.fra a o q (R.own i a oa).2.2) k.gg⟩
      | oL x0 ds =>
        obtain ⟨a, ea, ga, h⟩ := ok
        have oa : Own σ δ i a := ⟨ea ▸ ev, _, e, rfl⟩
        exact ⟨a, ea, gN i a oa, h.up (fun o q => k.fra a o q (R.own i a oa).2.2) k.gg⟩
  · rcases k.gn a o e with z | z
    · exact R.gn a o z
    · exact .inr (R.new1 z)
  · rcases k.gn a o e with z | z
    · exact .inl ⟨o, z⟩
    · exact .inr (R.new1 z)
  · exact R.newOwn (k.own io a e)
end
section
variable {X : Cx} {e : Expr} {es : List Expr} {pos p : Pos} {u : TDA} {k n : Nat} {f : Addr} {fd : FuncData} {ps : List Str} {t : TF} {x : Str}
theorem tdCall_run (mt : MonoF t) (mu : MonoA u) : ∀ (hn : ∀ rs Q, t rs Q → rs.length = n) σ H Q, tyE X.K (tdCall t u) σ H Q → tCall (spD X.K n t) [] E0 (tyA X.K u) σ H Q := by
  intro hn σ H Q ⟨B, H0, G0, δ, G, R, q⟩
  refine ⟨B, H0, G0, δ, G, R, mu _ _ _ q fun rs δ1 q vs H1 G1 R1 s1 f1 oks => ?_⟩
  show spD X.K n t (vs ++ []) H1 Q E0
  rw [List.append_nil]
  refine ⟨oks.len.trans (hn _ _ q), B, G1, rs, R1.sub, R1.bag, R1.sz, oks, mt _ _ _ q fun r q v H' G' k => ?_⟩
  obtain ⟨R2, ok⟩ := R1.call k
  exact q v H' G' R2 (s1.trans k.gg) (f1.trans k.fra) ok
theorem tdCall_mono (mt : MonoF t) (mu : MonoA u) : MonoD (tdCall t u) := fun δ Q Q' q w => mu _ _ _ q fun rs δ1 q => mt _ _ _ q fun r q => w _ _ q
theorem pd_call (F : FnOk X.prog X.w X.K X.mg X.base CX0 k f fd ps (spD X.K n t)) (mt : MonoF t) (hn : ∀ rs Q, t rs Q → rs.length = n) (hr : Room k X.A) (hg : Gl X x) (hm : X.mg x = some (.ref f)) (hk : PySem.W.keepIn X.K (.ref f) = true) (hb : Binds X.K fd ps []) (h : PDA X (e :: es) u)
    (hdb : (x == ("__debug__" : Str)) = false := by decide) (he : starEach (e :: es) X.env = (false, eval e X.env) :: starEach es X.env := by rfl) (hpl : (backTo pos (starEach es X.env)).any (·.1) = false := by rfl) :
    PD X (.Call (.Name x p) (e :: es) [] pos) (tdCall t u) := ⟨PE.weak (pe_call F hr hg hm hk hb .nil pass0 h.pa hdb he hpl) (tdCall_run mt h.mono hn), tdCall_mono mt h.mono⟩
theorem pd_callG (F : FnG X.prog X.w X.K X.mg X.base k f fd ps (spD X.K n t)) (mt : MonoF t) (hn : ∀ rs Q, t rs Q → rs.length = n) (hgd : Ng X.A) (hr : Room k X.A) (hg : Gl X x) (hm : X.mg x = some (.ref f)) (hk : PySem.W.keepIn X.K (.ref f) = true) (hb : Binds X.K fd ps []) (h : PDA X (e :: es) u)
    (hdb : (x == ("__debug__" : Str)) = false := by decide) (he : starEach (e :: es) X.env = (false, eval e X.env) :: starEach es X.env := by rfl) (hpl : (backTo pos (starEach es X.env)).any (·.1) = false := by rfl) :
    PD X (.Call (.Name x p) (e :: es) [] pos) (tdCall t u) := ⟨PE.weak (pe_callG F hgd hr hg hm hk hb .nil h.pa hdb he hpl) (tdCall_run mt h.mono hn), tdCall_mono mt h.mono⟩
end
structure EndsD where
  nx : List Sl → Prop
  rt : Sl → List Sl → Prop
  bk : List Sl → Prop := fun _ => False
  ct : List Sl → Prop := fun _ => False
  ex : Addr → List Str → List D → List Sl → Prop := fun _ _ _ _ => False
abbrev TDS := EndsD → List Sl → Prop
structure EndsD.le (D D' : EndsD) : Prop where
  nx : ∀ δ, D.nx δ → D'.nx δ
  rt : ∀ r δ, D.rt r δ → D'.rt r δ
  bk : ∀ δ, D.bk δ → D'.bk δ
  ct : ∀ δ, D.ct δ → D'.ct δ
  ex : ∀ C ns ds δ, D.ex C ns ds δ → D'.ex C ns ds δ
theorem EndsD.le_refl (D : EndsD) : D.le D := ⟨fun _ h => h, fun _ _ h => h, fun _ h => h, fun _ h => h, fun _ _ _ _ h => h⟩
def MonoS (t : TDS) : Prop := ∀ D D' δ, EndsD.le D D' → t D δ → t D' δ
def WM (X : Cx) : WX := fun cls d σ H => ∀ (u : Value) (s' : Shared) (a : Addr) (B : Heap) (sI : Shared) (pins : List (Addr × Obj)),
  u = .ref a → Inv X pins σ H sI → (∀ b o, sI.heap.get? b = some o → b ∉ frs X.stack → B.get? b = some o) → sI.heap.UpToSlots s'.heap → Sky B X.stack a (Zc cls d) X.env.locals s'.heap → H a = none → s'.os = sI.os → AllBare s'.gens → X.xe u s'
theorem takes_WM (X : Cx) : Takes X (WM X) := fun u s' ⟨a, B, sI, pins, σ, H, cls, d, e, I, nb, up, sky, na, os, ag, w⟩ => w u s' a B sI pins e I nb up sky na os ag
theorem WM.of {X : Cx} {W : WX} (t : Takes X W) {cls : Value} {d : Option Addr} {σ : L2.St} {H : Hp} (w : W cls d σ H) : WM X cls d σ H := fun u s' a B sI pins e I nb up sky na os ag => t u s' ⟨a, B, sI, pins, σ, H, cls, d, e, I, nb, up, sky, na, os, ag, w⟩
def exW (X : Cx) (B : Bg X.K) (H0 G0 : Hp) (C : Addr) (ns : List Str) (ds : List D) (δ' : List Sl) : Prop := ∀ σ' H' G' dd xs, Rel X.K B H0 G0 H' σ' δ' G' → ns.length = xs.length → H' dd = some (.xd (ns.zip xs)) → H0 dd = none → G' dd = none → NotB B dd → (∀ i, ¬ Own σ' δ' i dd) → DdA X.K G' xs ds → WM X (.ref C) (some dd) σ' H'
def endsOf (X : Cx) (B : Bg X.K) (H0 G0 : Hp) (D : Ends) : EndsD where
  nx := fun δ' => ∀ σ' H' G', Rel X.K B H0 G0 H' σ' δ' G' → D.nx σ' H'
  rt := fun r δ' => ∀ v σ' H' G', Rel X.K B H0 G0 H' σ' δ' G' → ResOk X.K B H0 H' σ' δ' G' v r → D.rt v H'
  bk := fun δ' => ∀ σ' H' G', Rel X.K B H0 G0 H' σ' δ' G' → D.bk σ' H'
  ct := fun δ' => ∀ σ' H' G', Rel X.K B H0 G0 H' σ' δ' G' → D.ct σ' H'
  ex := exW X B H0 G0
def tyS (X : Cx) (t : TDS) : TS := fun D σ H => ∃ B H0 G0 δ G, Rel X.K B H0 G0 H σ δ G ∧ t (endsOf X B H0 G0 D) δ
structure PDS (X : Cx) (st : Stmt) (t : TDS) : Prop where
  ps : PS X st (tyS X t)
  mono : MonoS t
structure PDSs (X : Cx) (sts : List Stmt) (t : TDS) : Prop where
  ps : PSs X sts (tyS X t)
  mono : MonoS t
theorem PS.weak {X : Cx} {st : Stmt} {t t' : TS} (h : PS X st t) (w : ∀ D σ H, t' D σ H → t D σ H) : PS X st t' := ⟨fun pins s σ H D I q => h.run pins s σ H D I (w D σ H q)⟩
theorem PSs.weak {X : Cx} {st : List Stmt} {t t' : TS} (h : PSs X st t) (w : ∀ D σ H, t' D σ H → t D σ H) : PSs X st t' := ⟨fun pins s σ H D I q => h.run pins s σ H D I (w D σ H q)⟩
def tdNext : TDS := fun D δ => D.nx δ
def tdSeq (t u : TDS) : TDS := fun D δ => t { D with nx := fun δ' => u D δ' } δ
def tdRet (t : TD) : TDS := fun D δ => t δ D.rt
def tdIfS (c : TDT) (t u : TDS) : TDS := fun D δ => c δ fun b δ' => if b = true then t D δ' else u D δ'
def tdSet (i : Nat) (t : TD) : TDS := fun D δ => t δ fun r δ' => D.nx (δ'.set i r)
section
variable {K : PySem.W.Frag} {B : Bg K} {H0 G0 H H' G G' : Hp} {σ : L2.St} {δ : List Sl}
theorem getSet {α : Type} {l : List α} {i j : Nat} {a b : α} (h : (l.set i a)[j]? = some b) : (i = j ∧ i < l.length ∧ b = a) ∨ (i ≠ j ∧ l[j]? = some b) ∨ (i = j ∧ ¬ i < l.length ∧ False) := by
  by_cases hj : i = j
  · subst hj
    by_cases hl : i < l.length
    · rw [List.getElem?_set_self hl] at h; cases h; exact .inl ⟨rfl, hl, rfl⟩
    · rw [List.getElem?_eq_none (by simpa using hl)] at h; cases h
  · rw [List.getElem?_set_ne hj] at h; exact .inr (.inl ⟨hj, h⟩)
theorem Rel.assign (R : Rel K B H0 G0 H σ δ G) {v : V} {r : Sl} (ok : ResOk K B H0 H σ δ G v r) (i : Nat) : Rel K B H0 G0 H (σ.set i (some v)) (δ.set i r) G := by
  have back : ∀ j a, Own (σ.set i (some v)) (δ.set i r) j a → (j = i ∧ v = .ref a ∧ r.isOwn = true) ∨ (j ≠ i ∧ Own σ δ j a) := fun j a ⟨e, s, e2, io⟩ => by
    rcases getSet e2 with ⟨h1, h2, h3⟩ | ⟨h1, h2⟩ | ⟨_, _, h⟩
    · subst h1; subst h3
      rw [List.getElem?_set_self (by rw [R.len]; exact h2)] at e
      cases e
      exact .inl ⟨rfl, rfl, io⟩
    · rw [List.getElem?_set_ne h1] at e
      exact .inr ⟨fun z => h1 z.symm, e, s, h2, io⟩
    · exact h.elim
  refine ⟨R.sub, R.g0, R.ent, by rw [List.length_set, List.length_set]; exact R.len, fun j s e => ?_, fun j k a h1 h2 => ?_, fun j a h => ?_, R.bag, R.gn, R.sz, R.hd.set i ok.1.nohd _⟩
  · rcases getSet e with ⟨h1, h2, h3⟩ | ⟨h1, h2⟩ | ⟨_, _, h⟩
    · subst h1; subst h3
      exact .inr ⟨v, by rw [List.getElem?_set_self (by rw [R.len]; exact h2)], ok.1⟩
    · rw [List.getElem?_set_ne h1]; exact R.sl j s h2
    · exact h.elim
  · rcases back j a h1 with ⟨z1, z2, z3⟩ | ⟨z1, z2⟩
    · rcases back k a h2 with ⟨y1, y2, y3⟩ | ⟨y1, y2⟩
      · rw [z1, y1]
      · exact ((ok.2.2 z3 a z2).2.2 k y2).elim
    · rcases back k a h2 with ⟨y1, y2, y3⟩ | ⟨y1, y2⟩
      · exact ((ok.2.2 y3 a y2).2.2 j z2).elim
      · exact R.sep j k a z2 y2
  · rcases back j a h with ⟨z1, z2, z3⟩ | ⟨z1, z2⟩
    · obtain ⟨w1, w2, w3⟩ := ok.2.2 z3 a z2
      obtain ⟨b, eb, gb, _⟩ := ok.1.own z3
      rw [z2] at eb; cases eb
      exact ⟨w1, gb, w2⟩
    · exact R.own j a z2
end
section
variable {X : Cx} {e c : Expr} {st : Stmt} {sts sa sb : List Stmt} {pos : Pos} {ta : TD} {uc : TDT} {t u : TDS}
theorem ends_le_nx {X : Cx} {B : Bg X.K} {H0 G0 : Hp} {D : Ends} {f : TDS} (h : ∀ δ, f (endsOf X B H0 G0 D) δ → ∀ σ' H' G', Rel X.K B H0 G0 H' σ' δ G' → tyS X f D σ' H') :
    EndsD.le { endsOf X B H0 G0 D with nx := fun δ' => f (endsOf X B H0 G0 D) δ' } (endsOf X B H0 G0 { D with nx := tyS X f D }) :=
  ⟨fun δ q => h δ q, fun _ _ q => q, fun _ q => q, fun _ q => q, fun _ _ _ _ q => q⟩
theorem pds_cons (h : PDS X st t) (k : PDSs X sts u) : PDSs X (st :: sts) (tdSeq t u) := by
  refine ⟨PSs.weak (pss_cons h.ps k.ps) fun D σ H ⟨B, H0, G0, δ, G, R, q⟩ => ⟨B, H0, G0, δ, G, R, h.mono _ _ _ (ends_le_nx fun δ' q σ' H' G' R' => ⟨B, H0, G0, δ', G', R', q⟩) q⟩, fun D D' δ w q => h.mono { D with nx := fun δ' => u D δ' } { D' with nx := fun δ' => u D' δ' } _ ⟨fun δ' q => k.mono _ _ _ w q, w.rt, w.bk, w.ct, w.ex⟩ q⟩
theorem pds_one (h : PDS X st t) : PDSs X [st] t := ⟨pss_one h.ps, h.mono⟩
theorem pds_nil : PDSs X [] tdNext := ⟨PSs.weak pss_nil fun D σ H ⟨B, H0, G0, δ, G, R, q⟩ => q σ H G R, fun D D' δ w q => w.nx _ q⟩
theorem pds_ret (h : PD X e ta) : PDS X (.Return (some e) pos) (tdRet ta) :=
  ⟨PS.weak (ps_ret h.pe) fun D σ H ⟨B, H0, G0, δ, G, R, q⟩ => ⟨B, H0, G0, δ, G, R, h.mono _ _ _ q fun r δ' q v H' G' R' _ _ ok => q v σ H' G' R' ok⟩, fun D D' δ w q => h.mono _ _ _ q fun r δ' q => w.rt _ _ q⟩
theorem pds_if (h : PDT X c uc) (ha : PDSs X sa t) (hb : PDSs X sb u) : PDS X (.If c sa sb pos) (tdIfS uc t u) := by
  refine ⟨PS.weak (ps_if h.pt ha.ps hb.ps) fun D σ H ⟨B, H0, G0, δ, G, R, q⟩ => ⟨B, H0, G0, δ, G, R, h.mono _ _ _ q fun b δ' q H' G' R' _ _ => ?_⟩, fun D D' δ w q => h.mono _ _ _ q fun b δ' q => ?_⟩
  · cases b with
    | true => exact ⟨B, H0, G0, δ', G', R', q⟩
    | false => exact ⟨B, H0, G0, δ', G', R', q⟩
  · cases b with
    | true => exact ha.mono _ _ _ w q
    | false => exact hb.mono _ _ _ w q
theorem pds_set {i : Nat} {x : Str} {pos' : Pos} (hN : X.N.Nodup) (hi : X.N[i]? = some x) (hx : Loc X.env.scope x) (h : PD X e ta) (hs : swapsWith e (some (.Name x pos')) pos.line X.env = pure false := by rfl)
    (hf : X.fn x = true ∨ X.env.scope.names.lookup x = some .local := by first | exact .inl rfl | exact .inr rfl | assumption) : PDS X (.Assign [.Name x pos'] e pos) (tdSet i ta) :=
  ⟨PS.weak (ps_set hN hi hx h.pe hs hf) fun D σ H ⟨B, H0, G0, δ, G, R, q⟩ => ⟨B, H0, G0, δ, G, R, h.mono _ _ _ q fun r δ' q v H' G' R' _ _ ok => q _ _ _ (R'.assign ok i)⟩, fun D D' δ w q => h.mono _ _ _ q fun r δ' q => w.nx _ q⟩
end
def startD (N : List Str) (rs : List Sl) : List Sl := rs ++ List.replicate (N.length - rs.length) .no
theorem argsOk_get {K : PySem.W.Frag} {B : Bg K} {G : Hp} : ∀ {vs : List V} {rs : List Sl} {i : Nat} {r : Sl}, ArgsOk K B G vs rs → rs[i]? = some r → ∃ v, vs[i]? = some v ∧ ArgOk K B G v r
  | v :: vs, r :: rs, 0, _, h, e => by cases e; exact ⟨v, rfl, h.1⟩
  | v :: vs, r :: rs, i + 1, _, h, e => argsOk_get (i := i) h.2 (by simpa using e)
  | [], [], _, _, _, e => by simp at e
  | [], _ :: _, _, _, h, _ => h.elim
  | _ :: _, [], _, _, h, _ => h.elim
theorem rel_start {K : PySem.W.Frag} {B : Bg K} {H G : Hp} {N : List Str} {vs : List V} {rs : List Sl} (sub : Same G H) (bag : ∀ b c, (b, c) ∈ B → BagOk H G b c) (sz : HSz H) (oks : ArgsOk K B G vs rs) : Rel K B H G H (start N vs) (startD N rs) G := by
  have el := oks.len
  have low : ∀ (i : Nat) (r : Sl), (startD N rs)[i]? = some r → r = .no ∨ ∃ v, (start N vs)[i]? = some (some v) ∧ ArgOk K B G v r := fun i r e => by
    unfold startD at e
    by_cases hi : i < rs.length
    · rw [List.getElem?_append_left hi] at e
      obtain ⟨v, ev, ok⟩ := argsOk_get oks e
      refine .inr ⟨v, ?_, ok⟩
      unfold L2.start
      rw [List.getElem?_append_left (by rw [List.length_map, el]; exact hi), List.getElem?_map, ev]
      rfl
    · rw [List.getElem?_append_right (by omega), List.getElem?_replicate] at e
      split at e
      · cases e; exact .inl rfl
      · cases e
  have noOwn : ∀ i a, ¬ Own (start N vs) (startD N rs) i a := fun i a ⟨_, s, e2, io⟩ => by
    rcases low i s e2 with rfl | ⟨v, _, ok⟩
    · cases io
    · cases s <;> first | exact ok.elim | cases io
  refine ⟨sub, Same.refl _, fun a o e _ => e, ?_, fun i s e => ?_, fun i j a h => (noOwn i a h).elim, fun i a h => (noOwn i a h).elim, bag, fun a o e => .inl e, sz, HdSl.none fun i s e => ?_⟩
  · unfold L2.start startD
    rw [List.length_append, List.length_append, List.length_map, List.length_replicate, List.length_replicate, el]
  · rcases low i s e with z | ⟨v, ev, ok⟩
    · exact .inl (by rw [z]; rfl)
    · refine .inr ⟨v, ev, ?_⟩
      cases s <;> first | exact ok | exact ok.elim
  · rcases low i s e with z | ⟨v, ev, ok⟩
    · rw [z]; rfl
    · cases s <;> first | rfl | exact ok.elim
section
variable {P : Program} {w : World} {K : PySem.W.Frag} {mg : Str → Option Value} {base : Heap} {x qual : Str} {st : Stmt} {f : Addr} {fd : FuncData} {N ps : List Str} {k n : Nat} {t : TF}
theorem body_run {X : Cx} {sts : List Stmt} {tS : TDS} {H : Hp} {vs : List V} {Q : VK} {E : XK} (hX : X.K = K) (h : PDSs X sts tS) (le : ∀ rs (Q : Sl → Prop), t rs Q → tS { nx := fun _ => Q (.dt .non), rt := fun r _ => Q r } (startD N rs)) (want : spD K n t vs H Q E) :
    tyS X tS { nx := fun _ H2 => Q .non H2, rt := Q } (start N vs) H := by
  subst hX
  obtain ⟨_, B, G, rs, sub, bag, sz, oks, q⟩ := want
  refine ⟨B, H, G, _, G, rel_start sub bag sz oks, h.mono _ _ _ (?_ : EndsD.le { nx := fun _ => ∀ v H' G', RetOk X.K B H G H' G' v (.dt .non) → Q v H', rt := fun r _ => ∀ v H' G', RetOk X.K B H G H' G' v r → Q v H' } _) (le rs _ q)⟩
  exact ⟨fun δ q σ' H' G' R' => q .non H' G' ⟨R'.g0, R'.sub, R'.bag, fun a o e n => R'.ent a o e n, R'.sz, R'.gn, .non, fun z => (nomatch z), fun z => (nomatch z)⟩,
    fun r δ q v σ' H' G' R' ok => q v H' G' ⟨R'.g0, R'.sub, R'.bag, fun a o e n => R'.ent a o e n, R'.sz, R'.gn, ok.1, ok.2.1, fun io a e => (ok.2.2 io a e).1⟩, fun _ q => q.elim, fun _ q => q.elim, fun _ _ _ _ q => q.elim⟩
theorem fnD (F : Fun K x qual st f fd) (S : FnScope N ps (defScope st)) (hn : ps.length = n)
    (hb : ∀ (cdv : Value) (A : Around) (outer : List Env) (s : Shared) (H : Hp) (E : XK), Room k (A.deeper (envOfC qual (defScope st) s.heap.objs.size f cdv)) →
      ∃ tS, PDSs (cxOf CX0 P w K mg base N qual (defScope st) f cdv A outer s H E).nox (defBody st) tS ∧ ∀ rs (Q : Sl → Prop), t rs Q → tS { nx := fun _ => Q (.dt .non), rt := fun r _ => Q r } (startD N rs)) :
    FnOk P w K mg base CX0 (k + 1) f fd ps (spD K n t) :=
  F.ok S (fun vs H Q E h => h.1.trans hn.symm) fun cdv A outer s H vs Q E hr want => by
    obtain ⟨tS, h, le⟩ := hb cdv A outer s H E hr
    exact ⟨_, h.ps, body_run (X := (cxOf CX0 P w K mg base N qual (defScope st) f cdv A outer s H E).nox) rfl h le want⟩
theorem fnDG (F : Fun K x qual st f fd) (S : FnScope N ps (defScope st)) (hn : ps.length = n)
    (hb : ∀ (cdv : Value) (A : Around) (outer : List Env) (s : Shared) (H : Hp) (E : XK), Ng A → Room k (A.deeper (envOfC qual (defScope st) s.heap.objs.size f cdv)) →
      ∃ tS, PDSs (cxOf CX0 P w K mg base N qual (defScope st) f cdv A outer s H E).nox (defBody st) tS ∧ ∀ rs (Q : Sl → Prop), t rs Q → tS { nx := fun _ => Q (.dt .non), rt := fun r _ => Q r } (startD N rs)) :
    FnG P w K mg base (k + 1) f fd ps (spD K n t) :=
  fun_okG F S (fun vs H Q E h => h.1.trans hn.symm) fun cdv A outer s H vs Q E gd hr want => by
    obtain ⟨tS, h, le⟩ := hb cdv A outer s H E gd hr
    exact ⟨_, h.ps, body_run (X := (cxOf CX0 P w K mg base N qual (defScope st) f cdv A outer s H E).nox) rfl h le want⟩
end
end DL
set_option Elab.async false
set_option linter.all false
set_option maxRecDepth 100000
set_option maxHeartbeats 2000000
namespace DL
open PySem PySem.Spec PyProof.Rows L2
def ItOk (K : PySem.W.Frag) (G : Hp) (J : It) (xs : List D) : Prop := ∀ (B : Bg K) (H0 G0 H : Hp) (σ : L2.St) (δ : List Sl) (G2 : Hp), Rel K B H0 G0 H σ δ G2 → Same G G2 →
  (∀ (i : Nat) (d : D), xs[i]? = some d → J.go i H ∧ ∀ x H3, J.yld i H x H3 → ∃ G3, Rel K B H0 G0 H3 σ δ G3 ∧ Same G2 G3 ∧ Fra B H H3 ∧ Dd K G3 x d) ∧ J.stop xs.length H
abbrev TDI := List Sl → (List D → List Sl → Prop) → Prop
def MonoI (t : TDI) : Prop := ∀ δ (Q Q' : List D → List Sl → Prop), t δ Q → (∀ b δ', Q b δ' → Q' b δ') → t δ Q'
def AftI (K : PySem.W.Frag) (B : Bg K) (H0 G0 H : Hp) (σ : L2.St) (G : Hp) (R : It → Hp → Prop) : List D → List Sl → Prop := fun xs δ' => ∀ J H' G', Rel K B H0 G0 H' σ δ' G' → Same G G' → Fra B H H' → ItOk K G' J xs → R J H'
def tyI (K : PySem.W.Frag) (t : TDI) : TI := fun σ H R => ∃ B H0 G0 δ G, Rel K B H0 G0 H σ δ G ∧ t δ (AftI K B H0 G0 H σ G R)
structure PDI (X : Cx) (tg e : Expr) (t : TDI) : Prop where
  pi : PI X tg e (tyI X.K t)
  mono : MonoI t
theorem PI.weak {X : Cx} {tg e : Expr} {t t' : TI} (h : PI X tg e t) (w : ∀ σ H R, t' σ H R → t σ H R) : PI X tg e t' := ⟨fun pins s σ H R I q => h.run pins s σ H R I (w σ H R q)⟩
section
variable {K : PySem.W.Frag} {G : Hp}
theorem itOk_list {a : Addr} {vs : List V} {xs : List D} (h1 : G a = some (.lst vs)) (h2 : DdA K G vs xs) : ItOk K G (Itl K a) xs := by
  intro B H0 G0 H σ δ G2 R sG
  have hq : SqL K H a vs := SqL.of (R.sub _ _ (sG _ _ h1))
  refine ⟨fun i d e => ?_, ⟨vs, hq, Nat.le_of_eq h2.len⟩⟩
  obtain ⟨v, ev, hv⟩ := h2.get e
  refine ⟨⟨vs, v, hq, ev⟩, fun x H3 y => ?_⟩
  obtain ⟨rfl, y2⟩ := y
  have z := y2 vs hq
  rw [ev] at z; cases z
  exact ⟨G2, R, Same.refl _, Fra.refl _ _, Dd.mono sG _ _ hv⟩
theorem itOk_tup {a : Addr} {vs : List V} {xs : List D} (h1 : SqD K G a vs) (h2 : DdA K G vs xs) : ItOk K G (Itt K a) xs := by
  intro B H0 G0 H σ δ G2 R sG
  have hq : SqT K H a vs := sameT R.sub (sameD sG h1)
  refine ⟨fun i d e => ?_, ⟨vs, hq, Nat.le_of_eq h2.len⟩⟩
  obtain ⟨v, ev, hv⟩ := h2.get e
  refine ⟨⟨vs, v, hq, ev⟩, fun x H3 y => ?_⟩
  obtain ⟨rfl, y2⟩ := y
  have z := y2 vs hq
  rw [ev] at z; cases z
  exact ⟨G2, R, Same.refl _, Fra.refl _ _, Dd.mono sG _ _ hv⟩
def zs (lo : Int) : Nat → List D
  | 0 => []
  | n + 1 => .int lo :: zs (lo + 1) n
theorem zs_len : ∀ (n : Nat) (lo : Int), (zs lo n).length = n
  | 0, _ => rfl
  | n + 1, lo => by show (zs (lo + 1) n).length + 1 = n + 1; rw [zs_len n]
theorem zs_get : ∀ (n i : Nat) (lo : Int) (d : D), (zs lo n)[i]? = some d → i < n ∧ d = .int (lo + i)
  | 0, _, _, _, e => by simp [zs] at e
  | n + 1, 0, lo, d, e => by cases e; exact ⟨Nat.succ_pos _, by simp⟩
  | n + 1, i + 1, lo, d, e => by
    obtain ⟨h1, h2⟩ := zs_get n i (lo + 1) d (by simpa [zs] using e)
    refine ⟨Nat.succ_lt_succ h1, h2.trans ?_⟩
    congr 1
    push_cast
    omega
theorem itOk_rng (lo : Int) (n : Nat) : ItOk K G (Itr lo n) (zs lo n) := by
  intro B H0 G0 H σ δ G2 R sG
  refine ⟨fun i d e => ?_, by show n ≤ (zs lo n).length; rw [zs_len]; exact Nat.le_refl _⟩
  obtain ⟨h1, rfl⟩ := zs_get n i lo d e
  refine ⟨h1, fun x H3 y => ?_⟩
  obtain ⟨rfl, rfl⟩ := y
  exact ⟨G2, R, Same.refl _, Fra.refl _ _, .int _⟩
def enumD (k : Nat) : List D → List D
  | [] => []
  | d :: ds => .tup [.int (k : Nat), d] :: enumD (k + 1) ds
theorem enumD_len : ∀ (ds : List D) (k : Nat), (enumD k ds).length = ds.length
  | [], _ => rfl
  | d :: ds, k => by show (enumD (k + 1) ds).length + 1 = ds.length + 1; rw [enumD_len ds]
theorem enumD_get : ∀ (ds : List D) (k i : Nat) (d : D), (enumD k ds)[i]? = some d → ∃ x, ds[i]? = some x ∧ d = .tup [.int ((k + i : Nat)), x]
  | [], _, _, _, e => by simp [enumD] at e
  | x :: ds, k, 0, d, e => by cases e; exact ⟨x, rfl, rfl⟩
  | x :: ds, k, i + 1, d, e => by
    obtain ⟨y, h1, h2⟩ := enumD_get ds (k + 1) i d (by simpa [enumD] using e)
    refine ⟨y, by simpa using h1, h2.trans ?_⟩
    rw [show k + 1 + i = k + (i + 1) by omega]
theorem itOk_enum {a : Addr} {vs : List V} {xs : List D} (h1 : G a = some (.lst vs)) (h2 : DdA K G vs xs) : ItOk K G (Ite K a) (enumD 0 xs) := by
  intro B H0 G0 H σ δ G2 R sG
  have hq : SqL K H a vs := SqL.of (R.sub _ _ (sG _ _ h1))
  refine ⟨fun i d e => ?_, ⟨vs, hq, by rw [enumD_len, h2.len]; exact Nat.le_refl _⟩⟩
  obtain ⟨x0, e0, rfl⟩ := enumD_get xs 0 i d e
  obtain ⟨v, ev, hv⟩ := h2.get e0
  refine ⟨⟨vs, v, hq, ev⟩, fun x H3 y => ?_⟩
  obtain ⟨T, x1, rfl, nT, rfl, y2⟩ := y
  have z := y2 vs hq
  rw [ev] at z; cases z
  obtain ⟨R3, s3⟩ := R.laidG (o := .tup [.int (i : Nat), v]) nT (by show (2 : Nat) ≤ sizeLine; decide)
  refine ⟨_, R3, s3, Fra.upd nT, .tup (.inl upd_same) (.cons ?_ (.cons (Dd.mono (sG.trans s3) _ _ hv) .nil))⟩
  rw [Nat.zero_add]
  exact .int _
end
def tdOver (t : TD) : TDI := fun δ Q => t δ fun r δ' => match (fz r).bind seqOf with
  | some xs => Q xs δ'
  | none => False
def tdRng1 (t : TDA) : TDI := fun δ Q => t δ fun rs δ' => match rs with
  | [.dt (.int j)] => -(2 ^ 62) ≤ j ∧ j < 2 ^ 62 ∧ Q (zs 0 j.toNat) δ'
  | _ => False
section
variable {X : Cx} {e e2 tg : Expr} {es : List Expr} {pos p tpos : Pos} {ta : TD} {u : TDA}
theorem pi_seq {l : Expr} {tl : TE} (hl : PE X l tl) : PI X tg l (fun σ H R => tl σ H fun x H1 => ∃ a xs, x = .ref a ∧ ((SqL X.K H1 a xs ∧ R (Itl X.K a) H1) ∨ (SqT X.K H1 a xs ∧ R (Itt X.K a) H1))) := by
  constructor
  intro pins s σ H R I h
  refine thn (hl.run pins s σ H _ I h) ?_
  rintro v s1 ⟨x, H1, I1, r1, a, xs, rfl, q⟩
  cases r1
  have fresh := I1.fpOk (Nat.le_refl _) (I1.hok.fresh (Nat.le_refl _))
  have one : ∀ b ∈ [s1.heap.objs.size], FpOk X pins H1 b := fun b hb => by rw [List.mem_singleton.mp hb]; exact fresh
  rcases q with ⟨hq, q⟩ | ⟨hq, q⟩
  · obtain ⟨its, rv, pl, hz⟩ := I1.list hq
    exact wpAny_pyIter_list pl.isList ⟨_, _, _, _, H1, rfl, I1.kept (t' := s1.toks) (fun _ _ e => Heap.get?_push_of_some _ e), turn_list a _, ⟨_, Heap.get?_push_size _ rfl, rfl, rfl⟩, one, q⟩
  · obtain ⟨its, rv, pl, hz⟩ := I1.tuple hq
    exact wpAny_pyIter_tuple (show s1.heap.IsTuple a its.toArray from pl) ⟨_, _, _, _, H1, rfl, I1.kept (t' := s1.toks) (fun _ _ e => Heap.get?_push_of_some _ e), turn_tuple a _, ⟨_, Heap.get?_push_size _ rfl, rfl, rfl⟩, one, q⟩
theorem pdi_over (h : PD X e ta) : PDI X tg e (tdOver ta) := by
  refine ⟨PI.weak (pi_seq (tg := tg) h.pe) fun σ H Rr ⟨B, H0, G0, δ, G, R, q⟩ => ?_, fun δ Q Q' q w => h.mono _ _ _ q fun r δ' q => ?_⟩
  · refine ⟨B, H0, G0, δ, G, R, h.mono _ _ _ q fun r δ1 q v H1 G1 R1 s1 f1 ok => ?_⟩
    split at q
    · rename_i xs e1
      obtain ⟨d, e2, e3⟩ := Option.bind_eq_some_iff.mp e1
      obtain ⟨G2, R2, s2, hd⟩ := freeze R1 ok e2
      cases hd <;> first | cases e3 | skip
      · rename_i a vs g1 g2
        exact ⟨a, vs, rfl, .inl ⟨SqL.of (R2.sub _ _ g1), q _ _ _ R2 (s1.trans s2) f1 (itOk_list g1 g2)⟩⟩
      · rename_i a vs g1 g2
        exact ⟨a, vs, rfl, .inr ⟨sameT R2.sub g1, q _ _ _ R2 (s1.trans s2) f1 (itOk_tup g1 g2)⟩⟩
    · exact q.elim
  · split at q
    · exact w _ _ q
    · exact q
theorem arg2 {K : PySem.W.Frag} {B : Bg K} {G : Hp} : ∀ {vs : List V} {d e : D}, ArgsOk K B G vs [.dt d, .dt e] → ∃ v w, vs = [v, w] ∧ Dd K G v d ∧ Dd K G w e
  | [], _, _, h => h.elim
  | [_], _, _, h => h.2.elim
  | [v, w], _, _, h => ⟨v, w, rfl, h.1, h.2.1⟩
  | _ :: _ :: _ :: _, _, _, h => h.2.2.elim
theorem pdi_rng1 (hg : Gl X "range") (hm : X.mg "range" = none) (h : PDA X [e] u) (hs : starEach [e] X.env = [(false, eval e X.env)] := by rfl) : PDI X tg (.Call (.Name "range" p) [e] [] pos) (tdRng1 u) := by
  refine ⟨PI.weak (pi_range1 (tg := tg) hg hm h.pa hs) fun σ H Rr ⟨B, H0, G0, δ, G, R, q⟩ => ⟨B, H0, G0, δ, G, R, h.mono _ _ _ q fun rs δ1 q vs H1 G1 R1 s1 f1 oks => ?_⟩, fun δ Q Q' q w => h.mono _ _ _ q fun r δ' q => ?_⟩
  · split at q
    · obtain ⟨v, rfl, hd⟩ := arg1 oks
      cases hd
      exact ⟨_, rfl, q.1, q.2.1, q.2.2 _ _ _ R1 s1 f1 (itOk_rng 0 _)⟩
    · exact q.elim
  · split at q
    · exact ⟨q.1, q.2.1, w _ _ q.2.2⟩
    · exact q
end
abbrev TDG := D → List Sl → (List Sl → Prop) → Prop
def MonoG (g : TDG) : Prop := ∀ d δ (Q Q' : List Sl → Prop), g d δ Q → (∀ δ', Q δ' → Q' δ') → g d δ Q'
def tyG (K : PySem.W.Frag) (vs : List Nat) (g : TDG) : TG := fun v σ H Q => ∃ B H0 G0 δ G d, Rel K B H0 G0 H σ δ G ∧ Dd K G v d ∧ g d δ (fun δ' => ∀ σ', wipe σ' vs = wipe σ vs → Rel K B H0 G0 H σ' δ' G → Q σ' H)
structure PDG (X : Cx) (tg : Expr) (vs : List Nat) (g : TDG) : Prop where
  pg : PG X tg (tyG X.K vs g)
  mono : MonoG g
theorem PG.weak {X : Cx} {tg : Expr} {t t' : TG} (h : PG X tg t) (w : ∀ v σ H Q, t' v σ H Q → t v σ H Q) : PG X tg t' := ⟨fun pins s σ H v u Q I r q => h.run pins s σ H v u Q I r (w v σ H Q q)⟩
def gdName (i : Nat) : TDG := fun d δ Q => Q (δ.set i (.dt d))
def gdNames (is : List Nat) : TDG := fun d δ Q => match d with
  | .tup ds => ds.length = is.length ∧ Q ((is.zip ds).foldl (fun δ p => δ.set p.1 (.dt p.2)) δ)
  | _ => False
theorem wipe_set {σ : L2.St} {i : Nat} {v : Option V} : ∀ {vs : List Nat}, i ∈ vs → wipe (σ.set i v) vs = wipe σ vs
  | j :: vs, h => by
    unfold wipe
    by_cases hj : i ∈ vs
    · rw [wipe_set hj]
    · have e : j = i := by
        rcases List.mem_cons.mp h with z | z
        · exact z.symm
        · exact absurd z hj
      subst e
      have k : ∀ ws : List Nat, (wipe (σ.set j v) ws).set j none = (wipe σ ws).set j none := by
        intro ws
        induction ws with
        | nil => unfold wipe; rw [List.set_set]
        | cons w ws ih =>
          unfold wipe
          by_cases hw : w = j
          · subst hw; rw [List.set_set, List.set_set]; exact ih
          · rw [List.set_comm _ _ hw, List.set_comm _ _ hw, ih]
      exact k vs
section
variable {X : Cx} {tg : Expr} {pos : Pos}
theorem pdg_name {i : Nat} (h : PG X tg (gName i)) : PDG X tg [i] (gdName i) :=
  ⟨PG.weak h fun v σ H Q ⟨B, H0, G0, δ, G, d, R, hd, q⟩ => q _ (wipe_set (List.mem_singleton.mpr rfl)) (R.assign (resOk_dt hd) i), fun d δ Q Q' q w => w _ q⟩
def gNames : List Nat → TGs
  | [] => gNil
  | i :: is => gCons (gName i) (gNames is)
theorem gNames_run {K : PySem.W.Frag} {B : Bg K} {H0 G0 H G : Hp} {vs0 : List Nat} {σ0 : L2.St} {Q : L2.St → Hp → Prop} : ∀ (is : List Nat) (vs : List V) (ds : List D) (σ : L2.St) (δ : List Sl), (∀ i ∈ is, i ∈ vs0) → wipe σ vs0 = wipe σ0 vs0 → Rel K B H0 G0 H σ δ G → DdA K G vs ds → ds.length = is.length →
    (∀ σ', wipe σ' vs0 = wipe σ0 vs0 → Rel K B H0 G0 H σ' ((is.zip ds).foldl (fun δ p => δ.set p.1 (.dt p.2)) δ) G → Q σ' H) → gNames is vs σ H Q
  | [], _, [], σ, δ, _, w, R, h, _, q => by cases h; exact ⟨rfl, q σ w R⟩
  | i :: is, _, d :: ds, σ, δ, hi, w, R, h, e, q => by
    cases h with
    | @cons v vs _ _ h1 h2 =>
      exact ⟨v, vs, rfl, gNames_run is vs ds _ _ (fun j hj => hi j (List.mem_cons_of_mem _ hj)) ((wipe_set (hi i List.mem_cons_self)).trans w) (R.assign (resOk_dt h1) i) h2 (by simpa using e) q⟩
  | [], _, _ :: _, _, _, _, _, _, _, e, _ => by simp at e
  | _ :: _, _, [], _, _, _, _, _, _, e, _ => by simp at e
theorem pdg_names {es : List Expr} {kk n : Nat} {is : List Nat} (h : PG X (.Tuple es kk pos) (gTup X.K n (gNames is))) (hn : is.length = n) : PDG X (.Tuple es kk pos) is (gdNames is) := by
  refine ⟨PG.weak h fun v σ H Q ⟨B, H0, G0, δ, G, d, R, hd, q⟩ => ?_, fun d δ Q Q' q w => ?_⟩
  · unfold gdNames at q
    split at q
    · rename_i ds
      cases hd with
      | @tup a vs _ h1 h2 =>
        exact ⟨a, vs, rfl, sameT R.sub h1, (h2.len.trans q.1).trans hn, gNames_run is vs ds σ δ (fun _ z => z) rfl R h2 q.1 q.2⟩
    · exact q.elim
  · unfold gdNames at q ⊢
    split at q
    · exact ⟨q.1, w _ q.2⟩
    · exact q
end
def forD (g : TDG) (tb : TDS) (D : EndsD) : List DL.D → List Sl → Prop
  | [], δ => D.nx δ
  | d :: ds, δ => g d δ fun δ1 => tb { D with nx := forD g tb D ds, ct := forD g tb D ds, bk := D.nx } δ1
def tdFor (ti : TDI) (g : TDG) (tb : TDS) : TDS := fun D δ => ti δ fun xs δ' => forD g tb D xs δ'
theorem forD_mono {g : TDG} {tb : TDS} (mg : MonoG g) (mb : MonoS tb) {D D' : EndsD} (w : EndsD.le D D') : ∀ (ds : List DL.D) (δ : List Sl), forD g tb D ds δ → forD g tb D' ds δ
  | [], δ, h => w.nx δ h
  | d :: ds, δ, h => mg _ _ _ _ h fun δ1 q => mb { D with nx := forD g tb D ds, ct := forD g tb D ds, bk := D.nx } { D' with nx := forD g tb D' ds, ct := forD g tb D' ds, bk := D'.nx } _ ⟨fun δ' q => forD_mono mg mb w ds δ' q, w.rt, fun δ' q => w.nx _ q, fun δ' q => forD_mono mg mb w ds δ' q, w.ex⟩ q
section
variable {K : PySem.W.Frag} {B : Bg K} {H0 G0 H H' G G' : Hp} {σ : L2.St} {δ : List Sl}
theorem Rel.rebase (R : Rel K B H0 G0 H σ δ G) : Rel K B H0 G H σ δ G := ⟨R.sub, Same.refl _, R.ent, R.len, R.sl, R.sep, R.own, R.bag, fun _ _ e => .inl e, R.sz, R.hd⟩
theorem Rel.back (R : Rel K B H0 G0 H σ δ G) {H2 G2 : Hp} {σ2 : L2.St} {δ2 : List Sl} (R2 : Rel K B H0 G H2 σ2 δ2 G2) : Rel K B H0 G0 H2 σ2 δ2 G2 :=
  ⟨R2.sub, R.g0.trans R2.g0, R2.ent, R2.len, R2.sl, R2.sep, R2.own, R2.bag, fun a o e => (R2.gn a o e).elim (fun z => R.gn a o z) .inr, R2.sz, R2.hd⟩
end
section
variable {X : Cx} {tg iter : Expr} {body : List Stmt} {pos : Pos} {ti : TDI} {vs : List Nat} {g : TDG} {tb : TDS}
theorem pds_for (hp : PassesOwn (model X.prog X.w) X.A X.env X.xe) (hc : X.calm = true) (hi : PDI X tg iter ti) (hg : PDG X tg vs g) (hb : PDSs X body tb) (hs : ∀ x, foldedSetIterable iter X.env x = pure x := by intro _; rfl) :
    PDS X (.For tg iter body [] pos) (tdFor ti g tb) := by
  refine ⟨PS.weak (ps_for hp hc hi.pi hg.pg hb.ps hs) fun D σ H ⟨B, H0, G0, δ, G, R, q⟩ => ?_, fun D D' δ w q => hi.mono _ _ _ q fun xs δ' q => forD_mono hg.mono hb.mono w xs δ' q⟩
  refine ⟨B, H0, G0, δ, G, R, hi.mono _ _ _ q fun xs δ1 q J H1 G1 R1 s1 f1 it => ?_⟩
  refine ⟨fun i m σ' H' => i + m = xs.length ∧ ∃ δ' G', Rel X.K B H0 G1 H' σ' δ' G' ∧ forD g tb (endsOf X B H0 G0 D) (xs.drop i) δ', ⟨xs.length, by omega, δ1, G1, R1.rebase, by simpa using q⟩, fun i m σ' H' hW => ?_⟩
  obtain ⟨em, δ', G', R', q'⟩ := hW
  obtain ⟨each, stop⟩ := it B H0 G1 H' σ' δ' G' R' R'.g0
  by_cases hi' : i < xs.length
  · obtain ⟨go, yld⟩ := each i xs[i] (List.getElem?_eq_getElem hi')
    rw [List.drop_eq_getElem_cons hi'] at q'
    refine .inr ⟨go, fun σ2 H2 => ∃ δ2 G2, Rel X.K B H0 G1 H2 σ2 δ2 G2 ∧ forD g tb (endsOf X B H0 G0 D) (xs.drop (i + 1)) δ2, fun σ2 H2 ⟨δ2, G2, R2, q2⟩ => ⟨m - 1, by omega, by omega, δ2, G2, R2, q2⟩, fun x H3 y => ?_⟩
    obtain ⟨G3, R3, s3, f3, hd⟩ := yld x H3 y
    refine ⟨B, H0, G1, δ', G3, xs[i], R3, hd, hg.mono _ _ _ _ q' fun δ4 q4 σ4 _ R4 => ⟨B, H0, G1, δ4, G3, R4, hb.mono _ _ _ ?_ q4⟩⟩
    exact ⟨fun δ5 q5 σ5 H5 G5 R5 => ⟨δ5, G5, R5, q5⟩, fun r δ5 q5 v σ5 H5 G5 R5 ok => q5 v σ5 H5 G5 (R1.back R5) ok, fun δ5 q5 σ5 H5 G5 R5 => q5 σ5 H5 G5 (R1.back R5), fun δ5 q5 σ5 H5 G5 R5 => ⟨δ5, G5, R5, q5⟩, fun C ns ds δ5 q5 σ5 H5 G5 dd xs R5 => q5 σ5 H5 G5 dd xs (R1.back R5)⟩
  · have ei : i = xs.length := by omega
    subst ei
    rw [List.drop_length] at q'
    exact .inl ⟨stop, q' σ' H' G' (R1.back R')⟩
end
end DL
set_option Elab.async false
set_option linter.all false
set_option maxRecDepth 100000
set_option maxHeartbeats 2000000
namespace DL
open PySem PySem.Spec PyProof.Rows L2
def frzAt (i : Nat) (δ : List Sl) : List Sl := match δ[i]? with
  | some s => if s.isOwn = true then match fz s with
      | some d => δ.set i (.dt d)
      | none => δ
    else δ
  | none => δ
def frzAll : List Nat → List Sl → List Sl
  | [], δ => δ
  | i :: is, δ => frzAll is (frzAt i δ)
section
variable {K : PySem.W.Frag} {B : Bg K} {H0 G0 H H' G G' : Hp} {σ : L2.St} {δ : List Sl}
theorem Rel.frz1 (R : Rel K B H0 G0 H σ δ G) (i : Nat) : ∃ G', Rel K B H0 G0 H σ (frzAt i δ) G' ∧ Same G G' := by
  unfold frzAt
  split
  · rename_i s e
    split
    · rename_i io
      split
      · rename_i d ed
        obtain ⟨G', v, R', sG, _⟩ := R.freezeAt e io ed
        exact ⟨G', R', sG⟩
      · exact ⟨G, R, Same.refl _⟩
    · exact ⟨G, R, Same.refl _⟩
  · exact ⟨G, R, Same.refl _⟩
theorem Rel.frzs : ∀ (is : List Nat) {δ : List Sl} {G : Hp}, Rel K B H0 G0 H σ δ G → ∃ G', Rel K B H0 G0 H σ (frzAll is δ) G' ∧ Same G G'
  | [], _, G, R => ⟨G, R, Same.refl _⟩
  | i :: is, _, G, R => by
    obtain ⟨G1, R1, s1⟩ := R.frz1 i
    obtain ⟨G2, R2, s2⟩ := Rel.frzs is R1
    exact ⟨G2, R2, s1.trans s2⟩
end
def tdFrz (is : List Nat) (t : TD) : TD := fun δ Q => t (frzAll is δ) Q
theorem pd_frz {X : Cx} {e : Expr} {t : TD} (is : List Nat) (h : PD X e t) : PD X e (tdFrz is t) :=
  ⟨PE.weak h.pe fun σ H Q ⟨B, H0, G0, δ, G, R, q⟩ => by
    obtain ⟨G', R', sG⟩ := Rel.frzs is R
    exact ⟨B, H0, G0, _, G', R', h.mono _ _ _ q fun r δ' q v H' G2 R2 s2 f2 ok => q v H' G2 R2 (sG.trans s2) f2 ok⟩, fun δ Q Q' q w => h.mono _ _ _ q w⟩
def wipeD (δ : List Sl) : List Nat → List Sl
  | [] => δ
  | v :: vs => (wipeD δ vs).set v .no
def Sl.hid (s : Sl) : Bool := s.isOwn || s.isHd
def hideOwn (δ : List Sl) : List Sl := δ.map fun s => if s.hid = true then .no else s
def compD (g : TDG) (tt : TDT) (te : TD) (δw : List Sl) : List D → List D → (List D → Prop) → Prop
  | [], acc, Q => Q acc
  | d :: ds, acc, Q => g d δw fun δ1 => tt δ1 fun b δ2 => δ2 = δ1 ∧ (if b = true then te δ1 fun r δ3 => δ3 = δ1 ∧ match fz r with
      | some y => compD g tt te δw ds (acc ++ [y]) Q
      | none => False
    else compD g tt te δw ds acc Q)
def tdLc (ti : TDI) (g : TDG) (tt : TDT) (te : TD) (vs : List Nat) : TD := fun δ Q => ti δ fun xs δ1 => xs.length ≤ sizeLine ∧ compD g tt te (wipeD (hideOwn δ1) vs) xs [] fun ys => Q (.ol ys) δ1
theorem compD_mono {g : TDG} {tt : TDT} {te : TD} (mg : MonoG g) (mt : MonoT tt) (me : MonoD te) {δw : List Sl} {Q Q' : List D → Prop} (w : ∀ ys, Q ys → Q' ys) : ∀ (ds acc : List D), compD g tt te δw ds acc Q → compD g tt te δw ds acc Q'
  | [], acc, h => w _ h
  | d :: ds, acc, h => mg _ _ _ _ h fun δ1 h => mt _ _ _ h fun b δ2 h => ⟨h.1, by
      have h2 := h.2
      split
      · rename_i hb
        rw [if_pos hb] at h2
        refine me _ _ _ h2 fun r δ3 h3 => ⟨h3.1, ?_⟩
        have h4 := h3.2
        split at h4
        · rename_i y e; exact compD_mono mg mt me w ds _ h4
        · exact h4
      · rename_i hb
        rw [if_neg hb] at h2
        exact compD_mono mg mt me w ds _ h2⟩
section
variable {K : PySem.W.Frag} {B : Bg K} {H0 G0 H H' G G' : Hp} {σ : L2.St} {δ : List Sl}
theorem Rel.wipe1 (R : Rel K B H0 G0 H σ δ G) (i : Nat) : Rel K B H0 G0 H (σ.set i none) (δ.set i .no) G := by
  have back : ∀ j a, Own (σ.set i none) (δ.set i .no) j a → Own σ δ j a := fun j a ⟨e, s, e2, io⟩ => by
    rcases getSet e2 with ⟨h1, h2, h3⟩ | ⟨h1, h2⟩ | ⟨_, _, h⟩
    · subst h3; cases io
    · rw [List.getElem?_set_ne h1] at e
      exact ⟨e, s, h2, io⟩
    · exact h.elim
  refine ⟨R.sub, R.g0, R.ent, by rw [List.length_set, List.length_set]; exact R.len, fun j s e => ?_, fun j k a h1 h2 => R.sep j k a (back j a h1) (back k a h2), fun j a h => R.own j a (back j a h), R.bag, R.gn, R.sz, R.hd.set i rfl _⟩
  rcases getSet e with ⟨h1, h2, h3⟩ | ⟨h1, h2⟩ | ⟨_, _, h⟩
  · exact .inl (by rw [h3]; rfl)
  · rw [List.getElem?_set_ne h1]; exact R.sl j s h2
  · exact h.elim
theorem Rel.wipes (R : Rel K B H0 G0 H σ δ G) : ∀ vs : List Nat, Rel K B H0 G0 H (wipe σ vs) (wipeD δ vs) G
  | [] => R
  | v :: vs => (Rel.wipes R vs).wipe1 v
theorem wipe_wipe (σ : L2.St) (vs : List Nat) : wipe (wipe σ vs) vs = wipe σ vs := by
  have one : ∀ (ws us : List Nat) (τ : L2.St), (∀ i ∈ ws, i ∈ us) → wipe (wipe τ ws) us = wipe τ us := by
    intro ws us
    induction ws with
    | nil => intro τ _; rfl
    | cons w ws ih =>
      intro τ h
      show wipe ((wipe τ ws).set w none) us = wipe τ us
      rw [wipe_set (h w List.mem_cons_self)]
      exact ih τ fun i hi => h i (List.mem_cons_of_mem _ hi)
  exact one vs vs σ fun _ h => h
theorem hide_get {δ : List Sl} {i : Nat} {s : Sl} (h : (hideOwn δ)[i]? = some s) : s.isOwn = false ∧ (s = .no ∨ δ[i]? = some s) := by
  unfold hideOwn at h
  rw [List.getElem?_map] at h
  cases e : δ[i]? with
  | none => rw [e] at h; cases h
  | some u =>
    rw [e] at h
    cases io : u.hid with
    | true => simp [io] at h; subst h; exact ⟨rfl, .inl rfl⟩
    | false =>
      simp [io] at h; subst h
      unfold Sl.hid at io
      rw [Bool.or_eq_false_iff] at io
      exact ⟨io.1, .inr rfl⟩
theorem hide_hd {δ : List Sl} {i : Nat} {s : Sl} (h : (hideOwn δ)[i]? = some s) : s.isHd = false := by
  unfold hideOwn at h
  rw [List.getElem?_map] at h
  cases e : δ[i]? with
  | none => rw [e] at h; cases h
  | some u =>
    rw [e] at h
    cases io : u.hid with
    | true => simp [io] at h; subst h; rfl
    | false =>
      simp [io] at h; subst h
      unfold Sl.hid at io
      rw [Bool.or_eq_false_iff] at io
      exact io.2
theorem Rel.inner (R : Rel K B H0 G0 H σ δ G) : Rel K B H G H σ (hideOwn δ) G := by
  have no : ∀ i a, ¬ Own σ (hideOwn δ) i a := fun i a ⟨_, s, e, io⟩ => by rw [(hide_get e).1] at io; cases io
  refine ⟨R.sub, Same.refl _, fun _ _ e _ => e, by unfold hideOwn; rw [List.length_map]; exact R.len, fun i s e => ?_, fun i j a h => (no i a h).elim, fun i a h => (no i a h).elim, R.bag, fun _ _ e => .inl e, R.sz, HdSl.none fun i s e => hide_hd e⟩
  rcases (hide_get e).2 with z | z
  · exact .inl (by rw [z]; rfl)
  · exact R.sl i s z
theorem Rel.outer (R : Rel K B H0 G0 H σ δ G) {σ2 : L2.St} {δ2 : List Sl} (R2 : Rel K B H G H' σ2 δ2 G') : Rel K B H0 G0 H' σ δ G' := by
  have gN : ∀ i a, Own σ δ i a → G' a = none := fun i a oa => by
    obtain ⟨s, _, _, h⟩ := R.at oa
    obtain ⟨x, hx⟩ := h.there
    cases q : G' a with
    | none => rfl
    | some o =>
      rcases R2.gn a o q with z | z
      · rw [(R.own i a oa).2.1] at z; cases z
      · exact (h.nn z).elim
  refine ⟨R2.sub, R.g0.trans R2.g0, fun a o e n => R2.ent a o (R.ent a o e n) n, R.len, fun i s e => ?_, R.sep, fun i a oa => ⟨(R.own i a oa).1, gN i a oa, (R.own i a oa).2.2⟩, R2.bag, fun a o e => ?_, R2.sz, R.hd.up R2.g0 fun a o e => ?_⟩
  · rcases R.sl i s e with z | ⟨v, ev, ok⟩
    · exact .inl z
    · refine .inr ⟨v, ev, ?_⟩
      cases s with
      | no => trivial
      | hd _ _ _ _ => exact ok.elim
      | dt d => exact Dd.mono R2.g0 d v ok
      | bag => exact ok
      | cnt => exact ok
      | xcp _ _ _ _ _ => exact xcp_mono R2.g0 ok
      | fn _ _ _ _ _ => exact fn_mono R2.g0 ok
      | tb _ _ => exact ok
      | ol ds =>
        obtain ⟨a, ea, ga, h⟩ := ok
        have oa : Own σ δ i a := ⟨ea ▸ ev, _, e, rfl⟩
        exact ⟨a, ea, gN i a oa, h.up (fun o q => R2.ent a o q (R.own i a oa).2.2) R2.g0⟩
      | oK ks ds =>
        obtain ⟨a, ea, ga, h⟩ := ok
        have oa : Own σ δ i a := ⟨ea ▸ ev, _, e, rfl⟩
        exact ⟨a, ea, gN i a oa, h.up (fun o q => R2.ent a o q (R.own i a oa).2.2) R2.g0⟩
      | oT ks ds =>
        obtain ⟨a, ea, ga, h⟩ := ok
        have oa : Own σ δ i a := ⟨ea ▸ ev, _, e, rfl⟩
        exact ⟨a, ea, gN i a oa, h.up (fun o q => R2.ent a o q (R.own i a oa).2.2) R2.g0⟩
      | oI x0 C ks ds =>
        obtain ⟨a, ea, ga, h⟩ := ok
        have oa : Own σ δ i a := ⟨ea ▸ ev, _, e, rfl⟩
        exact ⟨a, ea, gN i a oa, h.up (fun o q => R2.ent a o q (R.own i a oa).2.2) R2.g0⟩
      | oL x0 ds =>
        obtain ⟨a, ea, ga, h⟩ := ok
        have oa : Own σ δ i a := ⟨ea ▸ ev, _, e, rfl⟩
        exact ⟨a, ea, gN i a oa, h.up (fun o q => R2.ent a o q (R.own i a oa).2.2) R2.g0⟩
  · rcases R2.gn a o e with z | z
    · exact R.gn a o z
    · exact .inr (R.new1 z)
  · rcases R2.gn a o e with z | z
    · exact .inl ⟨o, z⟩
    · exact .inr (R.new1 z)
theorem Rel.writeFree (R : Rel K B H0 G0 H σ δ G) {p : Addr} {o : HO} (h0 : H0 p = none) (gp : G p = none) (nb : NotB B p) (no : ∀ i, ¬ Own σ δ i p) (so : SzO o) : Rel K B H0 G0 (upd H p o) σ δ G := by
  refine ⟨fun b x e => by rw [upd_ne (ne_of_none e gp)]; exact R.sub _ _ e, R.g0, fun a x e n => by rw [upd_ne (ne_of_none e h0)]; exact R.ent a x e n, R.len, fun i s e => ?_, R.sep, R.own, fun b c e => ?_, R.gn, R.sz.upd so, R.hd⟩
  · rcases R.sl i s e with z | ⟨v, ev, ok⟩
    · exact .inl z
    · refine .inr ⟨v, ev, ?_⟩
      cases s with
      | no => trivial
      | hd _ _ _ _ => exact ok.elim
      | dt d => exact ok
      | bag => exact ok
      | cnt => exact ok
      | xcp _ _ _ _ _ => first | exact ok | exact xcp_mono (by assumption) ok | exact xcp_mono k.gg ok
      | fn _ _ _ _ _ => first | exact ok | exact fn_mono (by assumption) ok | exact fn_mono k.gg ok
      | tb _ _ => exact ok
      | ol ds =>
        obtain ⟨a, ea, ga, h⟩ := ok
        have ne : a ≠ p := fun z => no i (z ▸ ⟨ea ▸ ev, _, e, rfl⟩)
        exact ⟨a, ea, ga, h.up (fun o q => by rw [upd_ne ne]; exact q) (Same.refl _)⟩
      | oK ks ds =>
        obtain ⟨a, ea, ga, h⟩ := ok
        have ne : a ≠ p := fun z => no i (z ▸ ⟨ea ▸ ev, _, e, rfl⟩)
        exact ⟨a, ea, ga, h.up (fun o q => by rw [upd_ne ne]; exact q) (Same.refl _)⟩
      | oT ks ds =>
        obtain ⟨a, ea, ga, h⟩ := ok
        have ne : a ≠ p := fun z => no i (z ▸ ⟨ea ▸ ev, _, e, rfl⟩)
        exact ⟨a, ea, ga, h.up (fun o q => by rw [upd_ne ne]; exact q) (Same.refl _)⟩
      | oI x0 C ks ds =>
        obtain ⟨a, ea, ga, h⟩ := ok
        have ne : a ≠ p := fun z => no i (z ▸ ⟨ea ▸ ev, _, e, rfl⟩)
        exact ⟨a, ea, ga, h.up (fun o q => by rw [upd_ne ne]; exact q) (Same.refl _)⟩
      | oL x0 ds =>
        obtain ⟨a, ea, ga, h⟩ := ok
        have ne : a ≠ p := fun z => no i (z ▸ ⟨ea ▸ ev, _, e, rfl⟩)
        exact ⟨a, ea, ga, h.up (fun o q => by rw [upd_ne ne]; exact q) (Same.refl _)⟩
  · have ne : b ≠ p := fun z => nb c (z ▸ e)
    exact (R.bag b c e).up (upd_ne ne) (Same.refl _) (R.bag b c e).gn
end
structure PDTs (X : Cx) (ifs : List Expr) (t : TDT) : Prop where
  pt : PTs X ifs (tyT X.K t)
  mono : MonoT t
theorem PTs.weak {X : Cx} {e : List Expr} {t t' : TT} (h : PTs X e t) (w : ∀ σ H Q, t' σ H Q → t σ H Q) : PTs X e t' := ⟨fun pins s σ H Q I q => h.run pins s σ H Q I (w σ H Q q)⟩
def tdYes : TDT := fun δ Q => Q true δ
theorem pdts_nil {X : Cx} : PDTs X [] tdYes := ⟨PTs.weak pts_nil fun σ H Q ⟨B, H0, G0, δ, G, R, q⟩ => q H G R (Same.refl _) (Fra.refl _ _), fun _ _ _ q w => w _ _ q⟩
section
variable {X : Cx} {elt tg iter : Expr} {ifs : List Expr} {scope : Scope} {own : List (Str × Nat)} {pos : Pos} {ti : TDI} {g : TDG} {tt : TDT} {te : TD} {vs : List Nat}
theorem tdLc_run (hi : MonoI ti) (mg : MonoG g) (mt : MonoT tt) (me : MonoD te) : ∀ σ H Q, tyE X.K (tdLc ti g tt te vs) σ H Q → tLc (tyI X.K ti) (tyG X.K vs g) (tyT X.K tt) (tyE X.K te) vs σ H Q := by
  intro σ H Q ⟨B, H0, G0, δ, G, R, q⟩
  refine ⟨B, H0, G0, δ, G, R, hi _ _ _ q fun xs δ1 q J H1 G1 R1 s1 f1 it => fun D hD => ?_⟩
  obtain ⟨hz, q⟩ := q
  obtain ⟨d0, dB, dO⟩ := R1.newOwn hD
  have gD : G1 D = none := R1.sub.free hD
  refine ⟨fun i m H' => i + m = xs.length ∧ ∃ acc accD G', H' D = some (.lst acc) ∧ DdA X.K G' acc accD ∧ acc.length ≤ i ∧ Rel X.K B H0 G1 H' σ δ1 G' ∧ G' D = none ∧ Fra B H1 H' ∧
    compD g tt te (wipeD (hideOwn δ1) vs) (xs.drop i) accD (fun ys => Aft X.K B H0 G0 H σ G Q (.ol ys) δ1),
    ⟨xs.length, by omega, [], [], G1, upd_same, .nil, Nat.le_refl _, (R1.rebase).laidO hD (Nat.zero_le _), gD, Fra.upd hD, q⟩, fun i m H' hW => ?_⟩
  obtain ⟨em, acc, accD, G', eD, hA, la, R', gD', f', q'⟩ := hW
  by_cases hi' : i < xs.length
  · obtain ⟨each, _⟩ := it B H' G' H' σ (hideOwn δ1) G' R'.inner R'.g0
    obtain ⟨go, yld⟩ := each i xs[i] (List.getElem?_eq_getElem hi')
    rw [List.drop_eq_getElem_cons hi'] at q'
    refine .inr ⟨go, fun H2 => ∃ acc2 accD2 G2, H2 D = some (.lst acc2) ∧ DdA X.K G2 acc2 accD2 ∧ acc2.length ≤ i + 1 ∧ Rel X.K B H0 G1 H2 σ δ1 G2 ∧ G2 D = none ∧ Fra B H1 H2 ∧ compD g tt te (wipeD (hideOwn δ1) vs) (xs.drop (i + 1)) accD2 (fun ys => Aft X.K B H0 G0 H σ G Q (.ol ys) δ1),
      fun H2 ⟨acc2, accD2, G2, h1, h2, h3, h4, h5, h6, h7⟩ => ⟨m - 1, by omega, by omega, acc2, accD2, G2, h1, h2, h3, h4, h5, h6, h7⟩, fun x H3 y => ?_⟩
    obtain ⟨G3, R3, s3, f3, hd⟩ := yld x H3 y
    have fin : ∀ {σ2 : L2.St} {δ2 : List Sl} {H4 G4 : Hp}, Rel X.K B H' G' H4 σ2 δ2 G4 → Rel X.K B H0 G1 H4 σ δ1 G4 ∧ H4 D = some (.lst acc) ∧ G4 D = none ∧ Fra B H1 H4 := fun {σ2 δ2 H4 G4} R4 =>
      ⟨R'.outer R4, R4.ent _ _ eD dB, by
        cases z : G4 D with
        | none => rfl
        | some o =>
          rcases R4.gn _ _ z with y | y
          · rw [gD'] at y; cases y
          · rw [eD] at y; (cases y), f'.trans fun a o e n => R4.ent a o e n⟩
    refine ⟨B, H', G', _, G3, xs[i], R3.wipes vs, hd, mg _ _ _ _ q' fun δ4 q4 σ4 ew R4 => ⟨ew.trans (wipe_wipe σ vs), ?_⟩⟩
    refine ⟨B, H', G', δ4, G3, R4, mt _ _ _ q4 fun b δ5 q5 H5 G5 R5 s5 f5 => ?_⟩
    obtain ⟨rfl, q5⟩ := q5
    cases b with
    | false =>
      obtain ⟨h1, h2, h3, h4⟩ := fin R5
      exact ⟨acc, accD, G5, h2, DdA.mono R5.g0 _ _ hA, by omega, h1, h3, h4, q5⟩
    | true =>
      refine ⟨B, H', G', δ5, G5, R5, me _ _ _ q5 fun r δ6 q6 v H6 G6 R6 s6 f6 ok => ?_⟩
      obtain ⟨rfl, q6⟩ := q6
      split at q6
      · rename_i y ey
        obtain ⟨G7, R7, s7, hy⟩ := freeze R6 ok ey
        obtain ⟨h1, h2, h3, h4⟩ := fin R7
        have hl : (acc ++ [v]).length ≤ i + 1 := by rw [List.length_append]; show acc.length + 1 ≤ i + 1; omega
        refine ⟨acc, h2, by omega, acc ++ [v], accD ++ [y], G7, upd_same, (DdA.mono R7.g0 _ _ hA).append (.one hy), hl, ?_, h3, fun a o e n => ?_, q6⟩
        · exact h1.writeFree d0 h3 dB (fun j oj => by
            obtain ⟨e1, s, e2, e3⟩ := oj
            exact dO j ⟨e1, s, e2, e3⟩) (by show (acc ++ [v]).length ≤ sizeLine; omega)
        · by_cases ha : a = D
          · subst ha; rw [hD] at e; cases e
          · rw [upd_ne ha]; exact h4 a o e n
      · exact q6.elim
  · have ei : i = xs.length := by omega
    subst ei
    obtain ⟨_, stop⟩ := it B H0 G1 H' σ δ1 G' R' R'.g0
    rw [List.drop_length] at q'
    refine .inl ⟨stop, q' (.ref D) H' G' (R1.back R') (s1.trans R'.g0) (f1.trans f') ⟨⟨D, rfl, gD', acc, eD, hA⟩, fun z => (nomatch z), fun _ a e => ?_⟩⟩
    cases e
    exact ⟨d0, dB, dO⟩
theorem tdLc_mono (hi : MonoI ti) (mg : MonoG g) (mt : MonoT tt) (me : MonoD te) : MonoD (tdLc ti g tt te vs) := fun δ Q Q' q w => hi _ _ _ q fun xs δ1 q => ⟨q.1, compD_mono mg mt me (fun ys q => w _ _ q) _ _ q.2⟩
abbrev Blk (X : Cx) (scope : Scope) (s : Shared) (H : Hp) (C : Addr) (cl : List (Str × Addr)) (fp : List Addr) : Cx := X.blk s H scope (compEnvC scope cl C X.env) fp
theorem pd_lc (hc : X.calm = true) (hN : X.N.Nodup) (hi : PDI X tg iter ti) (ok : BlkOk X.N X.env.scope scope own) (ev : own.map (·.2) = vs)
    (hg : ∀ s H C cl fp, PDG (Blk X scope s H C cl fp) tg vs g) (ht : ∀ s H C cl fp, PDTs (Blk X scope s H C cl fp) ifs tt) (he : ∀ s H C cl fp, PD (Blk X scope s H C cl fp) elt te)
    (hs : ∀ x, foldedSetIterable iter X.env x = pure x := by intro _; rfl) : PD X (.ListComp elt [⟨tg, iter, ifs, 0⟩] scope pos) (tdLc ti g tt te vs) := by
  subst ev
  have m1 := (hg X.s_0 X.H_0 0 [] []).mono
  have m2 := (ht X.s_0 X.H_0 0 [] []).mono
  have m3 := (he X.s_0 X.H_0 0 [] []).mono
  exact ⟨PE.weak (pe_lc (te := tyE X.K te) (tt := tyT X.K tt) (g := tyG X.K (own.map (·.2)) g) hc hN hi.pi ok (fun s H C cl fp => (hg s H C cl fp).pg) (fun s H C cl fp => (ht s H C cl fp).pt) (fun s H C cl fp => (he s H C cl fp).pe) hs) (tdLc_run hi.mono m1 m2 m3), tdLc_mono hi.mono m1 m2 m3⟩
theorem pds_setLc {i : Nat} {y : Str} {py spos : Pos} (hc : X.calm = true) (hN : X.N.Nodup) (hy : X.N[i]? = some y) (hyl : X.env.scope.names.lookup y = some .local)
    (hsw : swapsWith (.ListComp elt [⟨tg, iter, ifs, 0⟩] scope pos) (some (.Name y py)) spos.line X.env = pure true) (hi : PDI X tg iter ti) (ok : BlkOk X.N X.env.scope scope own) (ev : own.map (·.2) = vs)
    (hg : ∀ s H C cl fp, PDG (Blk X scope s H C cl fp) tg vs g) (ht : ∀ s H C cl fp, PDTs (Blk X scope s H C cl fp) ifs tt) (he : ∀ s H C cl fp, PD (Blk X scope s H C cl fp) elt te)
    (hs : ∀ x, foldedSetIterable iter X.env x = pure x := by intro _; rfl) : PDS X (.Assign [.Name y py] (.ListComp elt [⟨tg, iter, ifs, 0⟩] scope pos) spos) (tdSet i (tdLc ti g tt te vs)) := by
  subst ev
  have m1 := (hg X.s_0 X.H_0 0 [] []).mono
  have m2 := (ht X.s_0 X.H_0 0 [] []).mono
  have m3 := (he X.s_0 X.H_0 0 [] []).mono
  have m := tdLc_mono (vs := own.map (·.2)) hi.mono m1 m2 m3
  refine ⟨PS.weak (ps_setLc (te := tyE X.K te) (tt := tyT X.K tt) (g := tyG X.K (own.map (·.2)) g) hc hN hy hyl hsw hi.pi ok (fun s H C cl fp => (hg s H C cl fp).pg) (fun s H C cl fp => (ht s H C cl fp).pt) (fun s H C cl fp => (he s H C cl fp).pe) hs) fun D σ H ⟨B, H0, G0, δ, G, R, q⟩ => ?_, fun D D' δ w q => m _ _ _ q fun r δ' q => w.nx _ q⟩
  exact tdLc_run hi.mono m1 m2 m3 σ H _ ⟨B, H0, G0, δ, G, R, m _ _ _ q fun r δ' q v H' G' R' _ _ ok => q _ _ _ (R'.assign ok i)⟩
end
end DL
set_option Elab.async false
set_option linter.all false
set_option maxRecDepth 100000
set_option maxHeartbeats 2000000
namespace DL
open PySem PySem.Spec PyProof.Rows L2
mutual
def plainD : D → Bool
  | .lst xs => plainA xs
  | .tup xs => plainA xs
  | .dK ks vs => decide (ks.length = vs.length) && plainA vs
  | .dT _ _ => false
  | .dL _ _ => false
  | .ins _ _ _ => false
  | _ => true
def plainA : List D → Bool
  | [] => true
  | x :: xs => plainD x && plainA xs
end
mutual
def noL : D → Bool
  | .lst _ => false
  | .tup xs => noLA xs
  | .dK _ vs => noLA vs
  | .dT _ _ => false
  | .dL _ _ => false
  | .ins _ _ _ => false
  | _ => true
def noLA : List D → Bool
  | [] => true
  | x :: xs => noL x && noLA xs
end
theorem key_reads {h : Heap} {P : Program} {w : World} : ∀ {es : List DictEntry} {kvs : List (Key × Value)}, Pairs (mixKind P w) es kvs → ReadsAll h (es.map (·.key)) (kvs.map fun p => keyPy p.1) []
  | [], [], _ => .nil
  | e :: es, kv :: kvs, hp => by
    cases hp with
    | cons h1 h2 h3 =>
      have ih := key_reads (h := h) h3
      have z : Reads h e.key (keyPy kv.1) [] := by
        rcases keyIs_shape (k := kv.1) (v := e.key) h1 with ⟨i, t, e1, e2⟩ | ⟨x, t, e1, e2⟩
        · rw [e1, e2]; exact .int i t
        · rw [e1, e2]; exact .str x t
      exact ReadsAll.cons (as := []) z ih
  | [], _ :: _, hp => by cases hp
  | _ :: _, [], hp => by cases hp
theorem val_eq {P : Program} {w : World} : ∀ {es : List DictEntry} {kvs : List (Key × Value)}, Pairs (mixKind P w) es kvs → es.map (·.val) = kvs.map (·.2)
  | [], [], _ => rfl
  | e :: es, kv :: kvs, hp => by
    cases hp with
    | cons h1 h2 h3 => rw [List.map_cons, List.map_cons, h2, val_eq h3]
  | [], _ :: _, hp => by cases hp
  | _ :: _, [], hp => by cases hp
theorem kv_split : ∀ {ks : List Key} {xs : List V} {vs : List (Key × Value)}, ks.length = xs.length → KV (ks.zip xs) vs → vs.map (·.1) = ks ∧ Vals xs (vs.map (·.2))
  | [], [], _, _, h => by cases h; exact ⟨rfl, .nil⟩
  | k :: ks, x :: xs, _, e, h => by
    cases h with
    | cons h1 h2 =>
      obtain ⟨z1, z2⟩ := kv_split (by simpa using e) h2
      refine ⟨?_, .cons h1.2 z2⟩
      rw [List.map_cons, z1, ← h1.1]
  | [], _ :: _, _, e, _ => by simp at e
  | _ :: _, [], _, e, _ => by simp at e
section
variable {X : Cx} {pins : List (Addr × Obj)} {σ : L2.St} {H G : Hp} {s : Shared}
mutual
theorem Dd.reads (I : Inv X pins σ H s) (e : Same G H) : ∀ (d : D) (v : V) (u : Value), plainD d = true → Dd X.K G v d → RelV v u → ∃ as, Reads s.heap u (py d) as ∧ (noL d = true → sysModules ∉ as)
  | .non, _, _, _, h, r => by cases h; cases r; exact ⟨_, .none, fun _ => List.not_mem_nil⟩
  | .bl b, _, _, _, h, r => by cases h; cases r; exact ⟨_, .bool b, fun _ => List.not_mem_nil⟩
  | .int i, _, _, _, h, r => by cases h; obtain ⟨t, rfl⟩ := r; exact ⟨_, .int i t, fun _ => List.not_mem_nil⟩
  | .str x, _, _, _, h, r => by cases h; obtain ⟨t, rfl⟩ := r; exact ⟨_, .str x t, fun _ => List.not_mem_nil⟩
  | .lst ds, _, _, c, h, r => by
    cases h with
    | lst h1 h2 =>
      cases r
      obtain ⟨its, rv, ⟨o, n, ho, hc, _, hd⟩, _⟩ := I.list (SqL.of (e _ _ h1))
      obtain ⟨as, hr, _⟩ := DdA.reads I e ds _ its c h2 rv
      exact ⟨_, .list ho hc hd hr, fun z => by cases z⟩
  | .tup ds, _, _, c, h, r => by
    cases h with
    | tup h1 h2 =>
      cases r
      obtain ⟨its, rv, ⟨o, ho, hc, n, hd⟩, _⟩ := I.tuple (sameT e h1)
      obtain ⟨as, hr, hn⟩ := DdA.reads I e ds _ its c h2 rv
      exact ⟨_, .tuple ho hc hd hr, hn⟩
  | .dK ks ds, _, _, c, h, r => by
    cases h with
    | @dK a _ xs _ h0 h1 h2 =>
      cases r
      obtain ⟨_, sm, vs, kv, o, es, ep, ho, hx, hd, _, hp, _⟩ := rd_of I.hok (rdS e h1)
      obtain ⟨z1, z2⟩ := kv_split h0 kv
      have c2 : plainA ds = true := by
        have c' : (decide (ks.length = ds.length) && plainA ds) = true := c
        rw [Bool.and_eq_true] at c'
        exact c'.2
      obtain ⟨as, hr, hn⟩ := DdA.reads I e ds _ (vs.map (·.2)) c2 h2 z2
      have k1 := key_reads (h := s.heap) hp
      have k2 : (vs.map fun p => keyPy p.1) = ks.map keyPy := by rw [← z1, List.map_map]; rfl
      rw [k2] at k1
      have l1 : (ks.map keyPy).length = (pyA ds).length := by rw [pyA_map, List.length_map, List.length_map, h0, h2.len]
      refine ⟨_, Reads.dict (kvs := (ks.map keyPy).zip (pyA ds)) ho hx.1 hd (as := []) (bs := as) ?_ ?_, fun hn2 hm => ?_⟩
      · rw [List.map_fst_zip (Nat.le_of_eq l1)]; exact k1
      · rw [List.map_snd_zip (Nat.le_of_eq l1.symm), val_eq hp]; exact hr
      · have hm2 : sysModules ∈ a :: as := by simpa using hm
        rcases List.mem_cons.mp hm2 with z | z
        · rw [← z] at sm
          exact absurd sm (by decide)
        · exact hn hn2 z
  | .dT _ _, _, _, c, _, _ => by cases c
  | .dL _ _, _, _, c, _, _ => by cases c
  | .ins _ _ _, _, _, c, _, _ => by cases c
theorem DdA.reads (I : Inv X pins σ H s) (e : Same G H) : ∀ (ds : List D) (vs : List V) (us : List Value), plainA ds = true → DdA X.K G vs ds → Vals vs us → ∃ as, ReadsAll s.heap us (pyA ds) as ∧ (noLA ds = true → sysModules ∉ as)
  | [], _, _, _, h, r => by cases h; cases r; exact ⟨_, .nil, fun _ => List.not_mem_nil⟩
  | d :: ds, _, _, c, h, r => by
    cases h with
    | cons h1 h2 =>
      cases r with
      | cons r1 r2 =>
        have c' : (plainD d && plainA ds) = true := c
        rw [Bool.and_eq_true] at c'
        obtain ⟨as, hr, hn⟩ := Dd.reads I e d _ _ c'.1 h1 r1
        obtain ⟨bs, hr2, hn2⟩ := DdA.reads I e ds _ _ c'.2 h2 r2
        refine ⟨_, .cons hr hr2, fun z hm => ?_⟩
        have z' : (noL d && noLA ds) = true := z
        rw [Bool.and_eq_true] at z'
        rcases List.mem_append.mp hm with q | q
        · exact hn z'.1 q
        · exact hn2 z'.2 q
end
end
structure ShowOk (d : D) : Prop where
  plain : plainD d = true
  nums : (py d).showable = true
  len : (py d).shown.length ≤ sizeLine
  depth : (py d).depth ≤ 100
  dicts : (py d).hasDict = false ∨ noL d = true
def smallK : Key → Bool
  | .inl i => decide (i.natAbs < 10 ^ 78)
  | .inr x => PyData.strOk x
def costK : Key → Nat
  | .inl _ => 80
  | .inr x => 10 * x.length + 2
mutual
def smallD : D → Prop
  | .int i => i.natAbs < 10 ^ 78
  | .str x => PyData.strOk x = true
  | .lst xs => smallA xs
  | .tup xs => smallA xs
  | .dK ks vs => ks.all smallK = true ∧ smallA vs
  | .dT _ _ => False
  | .dL _ _ => False
  | .ins _ _ _ => False
  | _ => True
def smallA : List D → Prop
  | [] => True
  | x :: xs => smallD x ∧ smallA xs
end
mutual
def costD : D → Nat
  | .non => 4
  | .bl _ => 5
  | .int _ => 80
  | .str x => 10 * x.length + 2
  | .lst xs => costA xs + 3
  | .tup xs => costA xs + 3
  | .dK ks vs => (ks.map fun k => costK k + 4).sum + costA vs + 3
  | .dT _ _ => 0
  | .dL _ _ => 0
  | .ins _ _ _ => 0
def costA : List D → Nat
  | [] => 0
  | x :: xs => costD x + 2 + costA xs
end
theorem textFrom_le : ∀ (ts : List Str) (k : Nat) (acc : Str), (textFrom k acc ts).length ≤ acc.length + piled ts
  | [], k, acc => by show acc.length ≤ _; omega
  | x :: ts, k, acc => by
    show (textFrom (k + 1) (acc ++ (if k > 0 then ", " else "" : String) ++ x) ts).length ≤ _
    have h := textFrom_le ts (k + 1) (acc ++ (if k > 0 then ", " else "" : String) ++ x)
    rw [strLen_append, strLen_append] at h
    have e : (Str.ofString (if k > 0 then ", " else "")).length ≤ 2 := by split <;> decide
    rw [piled_cons]
    omega
theorem listText_le (ts : List Str) : (listText ts).length ≤ piled ts + 3 := by
  unfold listText
  rw [strLen_append]
  have h := textFrom_le ts 0 "["
  have e1 : (Str.ofString "[").length = 1 := by decide
  have e2 : (Str.ofString "]").length = 1 := by decide
  omega
theorem join_le (ts : List Str) : (Str.join ", " ts).length ≤ piled ts := by
  by_cases h : ts = []
  · subst h; decide
  · have := join_length_add ts h
    omega
theorem tupleText_le (ts : List Str) : (tupleText ts).length ≤ piled ts + 3 := by
  unfold tupleText
  rw [strLen_append, strLen_append]
  have h := join_le ts
  have e1 : (Str.ofString "(").length = 1 := by decide
  have e2 : (Str.ofString (if ts.length == 1 then ",)" else ")")).length ≤ 2 := by split <;> decide
  omega
theorem dictText_le (ts : List Str) : (dictText ts).length ≤ piled ts + 3 := by
  unfold dictText
  rw [strLen_append, strLen_append]
  have h := join_le ts
  have e1 : (Str.ofString "{").length = 1 := by decide
  have e2 : (Str.ofString "}").length = 1 := by decide
  omega
theorem int_le {i : Int} (h : i.natAbs < 10 ^ 78) : (Str.ofString (toString i)).length ≤ 80 ∧ i.natAbs.log2 < 1920 := by
  refine ⟨?_, ?_⟩
  · have z := int_text_length_le10 (k := 78) (by decide) h
    rw [PySem.ofString_length]
    omega
  · by_cases h0 : i.natAbs = 0
    · rw [h0]; decide
    · have z : i.natAbs.log2 < 260 := (Nat.log2_lt h0).mpr (Nat.lt_trans h (by decide +kernel))
      omega
theorem str_le {x : Str} (h : PyData.strOk x = true) : (reprText x).length ≤ 10 * x.length + 2 := by
  refine StrLaws.reprText_len x fun c hc => ?_
  unfold PyData.strOk at h
  have z := (Array.all_eq_true_iff_forall_mem.mp h) c (Array.mem_toList_iff.mp hc)
  have z2 : c < 0x110000 := of_decide_eq_true z
  omega
theorem keyPy_le {k : Key} (h : smallK k = true) : (keyPy k).shown.length ≤ costK k ∧ (keyPy k).showable = true ∧ (keyPy k).depth = 0 := by
  cases k with
  | inl i =>
    have z := int_le (of_decide_eq_true h)
    exact ⟨z.1, decide_eq_true z.2, rfl⟩
  | inr x => exact ⟨str_le h, rfl, rfl⟩
mutual
theorem costD_ok : ∀ d : D, smallD d → (py d).shown.length ≤ costD d ∧ (py d).showable = true
  | .non, _ => ⟨by decide, rfl⟩
  | .bl b, _ => ⟨by cases b <;> decide, rfl⟩
  | .int i, h => by
    have z := int_le h
    exact ⟨z.1, decide_eq_true z.2⟩
  | .str x, h => ⟨str_le h, rfl⟩
  | .lst xs, h => by
    obtain ⟨h1, h2⟩ := costA_ok xs h
    exact ⟨Nat.le_trans (listText_le _) (Nat.add_le_add_right h1 3), h2⟩
  | .tup xs, h => by
    obtain ⟨h1, h2⟩ := costA_ok xs h
    exact ⟨Nat.le_trans (tupleText_le _) (Nat.add_le_add_right h1 3), h2⟩
  | .dK ks vs, h => by
    obtain ⟨h1, h2⟩ := costA_ok vs h.2
    have k : ∀ (ks : List Key) (ds : List PyData), ks.all smallK = true → PyData.showableAll ds = true → piled (PyData.shownKv ((ks.map keyPy).zip ds)) ≤ (ks.map fun k => costK k + 4).sum + piled (PyData.shownAll ds) ∧ PyData.showableKv ((ks.map keyPy).zip ds) = true := by
      intro ks
      induction ks with
      | nil => intro ds _ _; exact ⟨Nat.zero_le _, rfl⟩
      | cons k ks ih =>
        intro ds hk hs
        cases ds with
        | nil => exact ⟨Nat.zero_le _, rfl⟩
        | cons d ds =>
          rw [List.all_cons, Bool.and_eq_true] at hk
          have hs' : (PyData.showable d && PyData.showableAll ds) = true := hs
          rw [Bool.and_eq_true] at hs'
          obtain ⟨i1, i2⟩ := ih ds hk.2 hs'.2
          obtain ⟨k1, k2, _⟩ := keyPy_le hk.1
          refine ⟨?_, ?_⟩
          · show piled ((PyData.shown (keyPy k) ++ ": " ++ PyData.shown d) :: PyData.shownKv ((ks.map keyPy).zip ds)) ≤ ((costK k + 4) :: ks.map fun k => costK k + 4).sum + piled (PyData.shown d :: PyData.shownAll ds)
            rw [piled_cons, piled_cons, List.sum_cons, strLen_append, strLen_append]
            have e1 : (Str.ofString ": ").length = 2 := by decide
            omega
          · show (PyData.showable (keyPy k) && PyData.showable d && PyData.showableKv ((ks.map keyPy).zip ds)) = true
            rw [k2, hs'.1, i2]; rfl
    obtain ⟨z1, z2⟩ := k ks (pyA vs) h.1 h2
    refine ⟨Nat.le_trans (dictText_le _) ?_, z2⟩
    show _ ≤ (ks.map fun k => costK k + 4).sum + costA vs + 3
    omega
  | .dT _ _, h => h.elim
  | .dL _ _, h => h.elim
  | .ins _ _ _, h => h.elim
theorem costA_ok : ∀ xs : List D, smallA xs → piled (PyData.shownAll (pyA xs)) ≤ costA xs ∧ PyData.showableAll (pyA xs) = true
  | [], _ => ⟨Nat.le_refl _, rfl⟩
  | x :: xs, h => by
    obtain ⟨h1, h2⟩ := costD_ok x h.1
    obtain ⟨h3, h4⟩ := costA_ok xs h.2
    refine ⟨?_, ?_⟩
    · show piled (PyData.shown (py x) :: PyData.shownAll (pyA xs)) ≤ costD x + 2 + costA xs
      rw [piled_cons]; omega
    · show (PyData.showable (py x) && PyData.showableAll (pyA xs)) = true
      rw [h2, h4]; rfl
end
theorem showOk_of {d : D} (h1 : plainD d = true) (h2 : smallD d) (h3 : costD d ≤ sizeLine) (h4 : (py d).depth ≤ 100) (h5 : (py d).hasDict = false ∨ noL d = true) : ShowOk d :=
  ⟨h1, (costD_ok d h2).2, Nat.le_trans (costD_ok d h2).1 h3, h4, h5⟩
end DL
set_option Elab.async false
set_option linter.all false
set_option maxRecDepth 100000
set_option maxHeartbeats 2000000
namespace DL
open PySem PySem.Spec PyProof.Rows L2
theorem u150 {k : Nat} {A : Around} (r : Room k A) : A.units + 150 < cLine := by have := r.un; omega
structure FnX (P : Program) (w : World) (K : PySem.W.Frag) (mg : Str → Option Value) (base : Heap) (k : Nat) (x : Str) (n : Nat) (t : TF) : Prop where
  ex : ∃ f fd ps, FnOk P w K mg base CX0 k f fd ps (spD K n t) ∧ mg x = some (.ref f) ∧ PySem.W.keepIn K (.ref f) = true ∧ Binds K fd ps []
  mono : MonoF t
  len : ∀ rs Q, t rs Q → rs.length = n
structure FnXG (P : Program) (w : World) (K : PySem.W.Frag) (mg : Str → Option Value) (base : Heap) (k : Nat) (x : Str) (n : Nat) (t : TF) : Prop where
  ex : ∃ f fd ps, FnG P w K mg base k f fd ps (spD K n t) ∧ mg x = some (.ref f) ∧ PySem.W.keepIn K (.ref f) = true ∧ Binds K fd ps []
  mono : MonoF t
  len : ∀ rs Q, t rs Q → rs.length = n
section
variable {X : Cx} {e : Expr} {es : List Expr} {pos p : Pos} {u : TDA} {k n : Nat} {t : TF} {x : Str}
theorem pd_fn (F : FnX X.prog X.w X.K X.mg X.base k x n t) (hr : Room k X.A) (hg : Gl X x) (h : PDA X (e :: es) u)
    (hdb : (x == ("__debug__" : Str)) = false := by decide) (he : starEach (e :: es) X.env = (false, eval e X.env) :: starEach es X.env := by rfl) (hpl : (backTo pos (starEach es X.env)).any (·.1) = false := by rfl) :
    PD X (.Call (.Name x p) (e :: es) [] pos) (tdCall t u) := by
  obtain ⟨f, fd, ps, h1, h2, h3, h4⟩ := F.ex
  exact pd_call h1 F.mono F.len hr hg h2 h3 h4 h hdb he hpl
theorem pd_fnG (F : FnXG X.prog X.w X.K X.mg X.base k x n t) (gd : Ng X.A) (hr : Room k X.A) (hg : Gl X x) (h : PDA X (e :: es) u)
    (hdb : (x == ("__debug__" : Str)) = false := by decide) (he : starEach (e :: es) X.env = (false, eval e X.env) :: starEach es X.env := by rfl) (hpl : (backTo pos (starEach es X.env)).any (·.1) = false := by rfl) :
    PD X (.Call (.Name x p) (e :: es) [] pos) (tdCall t u) := by
  obtain ⟨f, fd, ps, h1, h2, h3, h4⟩ := F.ex
  exact pd_callG h1 F.mono F.len gd hr hg h2 h3 h4 h hdb he hpl
end
structure Dfn (K : PySem.W.Frag) (mg : Str → Option Value) (x : Str) (st : Stmt) (ps : List Str) : Prop where
  ex : ∃ f fd, Fun K x x st f fd ∧ mg x = some (.ref f) ∧ Binds K fd ps []
section
variable {P : Program} {w : World} {K : PySem.W.Frag} {mg : Str → Option Value} {base : Heap} {x : Str} {st : Stmt} {N ps : List Str} {k n : Nat} {t : TF}
theorem FnX.of (D : Dfn K mg x st ps) (S : FnScope N ps (defScope st)) (hn : ps.length = n) (mt : MonoF t) (ln : ∀ rs Q, t rs Q → rs.length = n)
    (hb : ∀ (f : Addr) (cdv : Value) (A : Around) (outer : List Env) (s : Shared) (H : Hp) (E : XK), Room k (A.deeper (envOfC x (defScope st) s.heap.objs.size f cdv)) →
      ∃ tS, PDSs (cxOf CX0 P w K mg base N x (defScope st) f cdv A outer s H E).nox (defBody st) tS ∧ ∀ rs (Q : Sl → Prop), t rs Q → tS { nx := fun _ => Q (.dt .non), rt := fun r _ => Q r } (startD N rs)) :
    FnX P w K mg base (k + 1) x n t := by
  obtain ⟨f, fd, F, hm, hbd⟩ := D.ex
  exact ⟨⟨f, fd, ps, fnD F S hn (fun cdv A outer s H E hr => hb f cdv A outer s H E hr), hm, F.kp, hbd⟩, mt, ln⟩
theorem FnXG.of (D : Dfn K mg x st ps) (S : FnScope N ps (defScope st)) (hn : ps.length = n) (mt : MonoF t) (ln : ∀ rs Q, t rs Q → rs.length = n)
    (hb : ∀ (f : Addr) (cdv : Value) (A : Around) (outer : List Env) (s : Shared) (H : Hp) (E : XK), Ng A → Room k (A.deeper (envOfC x (defScope st) s.heap.objs.size f cdv)) →
      ∃ tS, PDSs (cxOf CX0 P w K mg base N x (defScope st) f cdv A outer s H E).nox (defBody st) tS ∧ ∀ rs (Q : Sl → Prop), t rs Q → tS { nx := fun _ => Q (.dt .non), rt := fun r _ => Q r } (startD N rs)) :
    FnXG P w K mg base (k + 1) x n t := by
  obtain ⟨f, fd, F, hm, hbd⟩ := D.ex
  exact ⟨⟨f, fd, ps, fnDG F S hn (fun cdv A outer s H E gd hr => hb f cdv A outer s H E gd hr), hm, F.kp, hbd⟩, mt, ln⟩
theorem FnX.g (F : FnX P w K mg base k x n t) : FnXG P w K mg base k x n t := by
  obtain ⟨f, fd, ps, h1, h2, h3, h4⟩ := F.ex
  exact ⟨⟨f, fd, ps, .of h1, h2, h3, h4⟩, F.mono, F.len⟩
theorem FnX.up {j : Nat} (F : FnX P w K mg base j x n t) (h : j ≤ k) : FnX P w K mg base k x n t := by
  obtain ⟨f, fd, ps, h1, h2, h3, h4⟩ := F.ex
  exact ⟨⟨f, fd, ps, h1.mono h, h2, h3, h4⟩, F.mono, F.len⟩
theorem FnXG.up {j : Nat} (F : FnXG P w K mg base j x n t) (h : j ≤ k) : FnXG P w K mg base k x n t := by
  obtain ⟨f, fd, ps, h1, h2, h3, h4⟩ := F.ex
  exact ⟨⟨f, fd, ps, h1.mono h, h2, h3, h4⟩, F.mono, F.len⟩
end
section
variable {X : Cx} {a b : Expr} {pos : Pos} {u : TDA}
theorem resOk_arg {K : PySem.W.Frag} {B : Bg K} {H0 H G : Hp} {σ : L2.St} {δ : List Sl} {v : V} {r : Sl} (h : ArgOk K B G v r) : ResOk K B H0 H σ δ G v r := by
  cases r <;> first | exact ⟨h, fun z => (nomatch z), fun z => (nomatch z)⟩ | exact h.elim
end
def tTake : TF := fun rs Q => match rs with
  | [.bag, .dt (.int n)] => 0 < n ∧ n < 1073741824 ∧ ∀ d : Int, 0 ≤ d → d < n → Q (.dt (.int d))
  | _ => False
theorem mono_tTake : MonoF tTake := fun rs Q Q' q w => by
  unfold tTake at q ⊢
  split at q
  · exact ⟨q.1, q.2.1, fun d h1 h2 => w _ (q.2.2 d h1 h2)⟩
  · exact q
theorem len_tTake : ∀ rs Q, tTake rs Q → rs.length = 2 := fun rs Q q => by
  unfold tTake at q
  split at q
  · rfl
  · exact q.elim
def tOne : TF := fun rs Q => match rs with
  | [.bag, .dt (.lst xs)] => 0 < xs.length ∧ xs.length < 1073741824 ∧ ∀ (i : Nat) (x : D), xs[i]? = some x → Q (.dt x)
  | _ => False
theorem mono_tOne : MonoF tOne := fun rs Q Q' q w => by
  unfold tOne at q ⊢
  split at q
  · exact ⟨q.1, q.2.1, fun i x h => w _ (q.2.2 i x h)⟩
  · exact q
theorem len_tOne : ∀ rs Q, tOne rs Q → rs.length = 2 := fun rs Q q => by
  unfold tOne at q
  split at q
  · rfl
  · exact q.elim
theorem get_list {X : Cx} : PGet X (fun x y H Q => ∃ (p : Addr) (xs : List V) (i : Nat) (v : V), x = .ref p ∧ y = .int (i : Nat) ∧ H p = some (.lst xs) ∧ xs[i]? = some v ∧ Q v H) := by
  intro pins s σ H o i ov iv Q I ro ri h
  obtain ⟨p, xs, j, v, rfl, rfl, hp, hv, q⟩ := h
  cases ro
  obtain ⟨t, rfl⟩ := ri
  obtain ⟨its, n, r, hg, hz⟩ := I.lst hp
  obtain ⟨u, hu, ru⟩ := r.get hv
  have hj : j < xs.length := (List.getElem?_eq_some_iff.mp hv).1
  have pl : s.heap.IsList p its.toArray := (I.list (SqL.of hp)).elim fun its' h => by
    obtain ⟨r', pl, _⟩ := h
    exact ⟨_, hg, rfl, ⟨n, rfl⟩⟩
  exact wpAny_getItem_list pl (Int.natCast_nonneg _) (by rw [sizeLine_eq] at hz; omega) (by simpa using hu) ⟨v, H, I, ru, q⟩
end DL
set_option Elab.async false
set_option linter.all false
set_option maxRecDepth 100000
set_option maxHeartbeats 4000000
namespace DL
open PySem PySem.Spec PyProof.Rows L2
section
variable {K : PySem.W.Frag}
def tAt (K : PySem.W.Frag) (j : Int) : TE := tOp (rIxL K) (tVar 0) (tC (.int j))
def rGetL : V → V → Hp → VK → Prop := fun x y H Q => ∃ (p : Addr) (xs : List V) (i : Nat) (v : V), x = .ref p ∧ y = .int (i : Nat) ∧ H p = some (.lst xs) ∧ xs[i]? = some v ∧ Q v H
def rInt1 : List V → Hp → VK → Prop := fun xs H Q => (∃ i, xs = [.int i] ∧ Q (.int i) H) ∨ ∃ k, xs = [.bl k] ∧ Q (.int (if k then 1 else 0)) H
def rLen1 (K : PySem.W.Frag) : List V → Hp → VK → Prop := fun xs H Q => ∃ x n, xs = [x] ∧ LenV K x H n ∧ Q (.int n) H
def tI1 (t : TE) : TE := tCB rInt1 (tCons t tNil)
def tIi (t : TE) : TE := fun σ H Q => t σ H fun v H1 => ∃ i, v = .int i ∧ Q (.int i) H1
theorem pe_i1i {X : Cx} {K : PySem.W.Frag} {e : Expr} {j : Int} (h : PE X e (tI1 (tAt K j))) : PE X e (tIi (tAt K j)) := PE.weak h fun σ H Q ⟨v, ev, a, xs, k, x, e1, e2, e3, e4, i, e5, q⟩ => ⟨v, ev, a, xs, k, x, e1, e2, e3, e4, .inl ⟨i, by rw [e5], q⟩⟩
abbrev rMul2 : R2 := rI CMul fun i j => .int (i * j)
abbrev rMod2 : R2 := rI (fun _ j => j ≠ 0) fun i j => .int (i.fmod j)
abbrev rDiv2 : R2 := rI CDivN fun i j => .int (i.fdiv j)
abbrev rAdd2 : R2 := rI0 fun i j => .int (i + j)
abbrev rLt2 : R2 := rI0 fun i j => .bl (decide (i < j))
abbrev rGt2 : R2 := rI0 fun i j => .bl (decide (j < i))
abbrev rGe2 : R2 := rI0 fun i j => .bl (decide (j ≤ i))
def t_take1 (K : PySem.W.Frag) : TS :=
  tSeq (tAsg (tC (.int 0)) (gName 2))
  (tSeq (tIfS (tTest (tOp rLt2 (tAt K 2) (tCB (rLen1 K) (tCons (tAt K 3) tNil)))) (tAsg (tOp (rIxL K) (tAt K 3) (tAt K 2)) (gName 2)) tNext)
  (tSeq (tAugS (tVar 0) (tC (.int 2)) (tC (.int 1)) rGetL (ipI fun i j => i + j) rSetL)
  (tSeq (tIfS (tTest (tOp rGe2 (tVar 2) (tC (.int 1000000000000000000)))) (tAsg (tVar 2) (gSub (tVar 0) (tC (.int 0)) rSetL)) tNext)
  (tSeq (tAsg (tOp rAdd2 (tOp rAdd2 (tOp rMul2 (tAt K 1) (tC (.int 48271))) (tOp rMod2 (tI1 (tVar 2)) (tC (.int 2147483647)))) (tOp rMul2 (tC (.int 7919)) (tAt K 2))) (gName 3))
  (tAsg (tOp rMod2 (tI1 (tVar 3)) (tC (.int 2147483647))) (gSub (tVar 0) (tC (.int 1)) rSetL))))))
def t_take2 (K : PySem.W.Frag) : TS :=
  tSeq (tAsg (tOp rMod2 (tI1 (tAt K 0)) (tVar 1)) (gName 4))
  (tSeq (tAsg (tOp rDiv2 (tIi (tAt K 0)) (tVar 1)) (gSub (tVar 0) (tC (.int 0)) rSetL)) (tRet (tVar 4)))
def t_take3 (K : PySem.W.Frag) : TS :=
  tSeq (tAsg (tOp rMod2 (tI1 (tOp rMul2 (tOp rAdd2 (tAt K 1) (tC (.int 1))) (tC (.int 39373)))) (tC (.int 1000000007))) (gName 5))
  (tSeq (tAsg (tOp rMod2 (tI1 (tOp rMul2 (tOp rMod2 (tI1 (tOp rMul2 (tVar 5) (tVar 5))) (tC (.int 998244353))) (tC (.int 30011)))) (tC (.int 998244353))) (gName 6))
  (tRet (tOp rMod2 (tI1 (tOp rDiv2 (tVar 6) (tC (.int 7)))) (tVar 1))))
def t_take (K : PySem.W.Frag) : TS :=
  tSeq (tIfS (tTest (tOp rEq (tAt K 0) (tC (.int 0)))) (t_take1 K) tNext)
  (tSeq (tIfS (tTest (tOp rGt2 (tAt K 0) (tC (.int 0)))) (t_take2 K) tNext) (t_take3 K))
theorem fmod_rng {i j : Int} (h : 0 < j) : 0 ≤ i.fmod j ∧ i.fmod j < j := ⟨Int.fmod_nonneg_of_pos i h, Int.fmod_lt_of_pos i h⟩
theorem fdiv_nn {i j : Int} (h0 : 0 ≤ i) (h : 0 < j) : 0 ≤ i.fdiv j := Int.fdiv_nonneg h0 (Int.le_of_lt h)
abbrev bagL (x m i : Int) (c : Addr) : HO := .lst [.int x, .int m, .int i, .ref c]
theorem pure_take {vs : List V} {H : Hp} {Q : VK} {E : XK} (h : spD K 2 tTake vs H Q E) :
    t_take K { nx := fun _ H2 => Q .non H2, rt := Q } (L2.start ["a", "b", "c", "d", "e", "f", "g"] vs) H := by
  obtain ⟨_, B, G, rs, sub, bag, sz, oks, q⟩ := h
  unfold tTake at q
  split at q
  case h_2 => exact q.elim
  rename_i n
  obtain ⟨hn0, hn1, q⟩ := q
  match vs, oks with
  | [], oks => exact oks.elim
  | [_], oks => exact oks.2.elim
  | _ :: _ :: _ :: _, oks => exact oks.2.2.elim
  | [v, w], oks =>
    obtain ⟨⟨b, c, hB, rfl⟩, hw, _⟩ := oks
    cases (show Dd K G w (.int n) from hw)
    obtain ⟨x, m, i, ns, hb, gb, gc, hx, hns, hm0, hm1, hi, hl⟩ := bag b _ hB
    have hcb : c ≠ b := fun e => by
      rcases gc with z | ⟨o, z⟩ <;> (rw [e, gb] at z; cases z)
    have hc : SqL K H c (ns.map V.int) := .inl (rdS sub gc)
    have fin : ∀ (x' m' i' d : Int) (H' : Hp), (∀ a, a ≠ b → H' a = H a) → H' b = some (bagL x' m' i' c) → 0 ≤ x' → 0 ≤ m' → m' < 2147483647 → 0 ≤ i' → 0 ≤ d → d < n → Q (.int d) H' := by
      intro x' m' i' d H' he hb' h1 h2 h3 h4 h5 h6
      refine q d h5 h6 (.int d) H' G ⟨Same.refl _, fun a o e => ?_, fun b2 c2 e2 => ?_, fun a o e nb => ?_, fun a o e => ?_, fun a o e => .inl e, .int d, fun z => (nomatch z), fun z => (nomatch z)⟩
      · rw [he a (ne_of_none e gb)]; exact sub _ _ e
      · by_cases h2b : b2 = b
        · subst h2b
          have z := bag _ c2 e2
          cases c2 with
          | bag c3 =>
            obtain ⟨_, _, _, _, y, _⟩ := z
            rw [hb] at y
            cases y
            exact ⟨x', m', i', ns, hb', gb, gc, h1, hns, h2, h3, h4, hl⟩
          | cnt =>
            obtain ⟨_, y, _⟩ := z
            rw [hb] at y
            cases y
          | tab q =>
            obtain ⟨⟨_, y, _⟩, _⟩ := z
            rw [hb] at y
            cases y
        · exact (bag b2 c2 e2).up (he b2 h2b) (Same.refl _) (bag b2 c2 e2).gn
      · rw [he a (fun z => nb _ (by rw [z]; exact hB))]; exact e
      · by_cases ha : a = b
        · subst ha; rw [hb'] at e; cases e; show (4 : Nat) ≤ sizeLine; decide
        · rw [he a ha] at e; exact sz a o e
    have rest : ∀ (σ : L2.St) (x' m' i' : Int) (H' : Hp), (∃ s2 s3, σ = [some (.ref b), some (.int n), s2, s3, none, none, none]) → (∀ a, a ≠ b → H' a = H a) → H' b = some (bagL x' m' i' c) → 0 ≤ x' → 0 ≤ m' → m' < 2147483647 → 0 ≤ i' →
        (tSeq (tIfS (tTest (tOp rGt2 (tAt K 0) (tC (.int 0)))) (t_take2 K) tNext) (t_take3 K)) { nx := fun _ H2 => Q .non H2, rt := Q } σ H' := by
      rintro σ x' m' i' H' ⟨s2, s3, rfl⟩ he hb' h1 h2 h3 h4
      refine ⟨_, rfl, b, _, 0, .int x', rfl, rfl, SqL.of hb', rfl, _, _, rfl, rfl, _, rfl, ite2 (fun e => ?_) (fun e => ?_)⟩
      ·
        have hxp : (0 : Int) < x' := of_decide_eq_true e
        refine ⟨_, rfl, b, _, 0, .int x', rfl, rfl, SqL.of hb', rfl, .inl ⟨x', rfl, _, rfl, _, _, rfl, rfl, (by omega : n ≠ 0), ?_⟩⟩
        refine ⟨_, rfl, b, _, 0, .int x', rfl, rfl, SqL.of hb', rfl, x', rfl, _, rfl, _, _, rfl, rfl, ⟨by omega, by omega⟩, ?_⟩
        refine ⟨_, rfl, b, _, 0, 0, rfl, rfl, hb', rfl, _, rfl, ?_⟩
        refine fin (x'.fdiv n) m' i' (x'.fmod n) _ (fun a ha => by rw [upd_ne ha]; exact he a ha) upd_same (fdiv_nn h1 hn0) h2 h3 h4 (fmod_rng hn0).1 (fmod_rng hn0).2
      ·
        refine ⟨_, rfl, b, _, 1, .int m', rfl, rfl, SqL.of hb', rfl, _, _, rfl, rfl, _, _, rfl, rfl, .inr ⟨by decide, by decide⟩, .inl ⟨_, rfl, _, _, rfl, rfl, (by decide : (1000000007 : Int) ≠ 0), ?_⟩⟩
        have b1 := fmod_rng (i := (m' + 1) * 39373) (j := 1000000007) (by decide)
        refine ⟨_, rfl, _, rfl, _, _, rfl, rfl, .inl ⟨by omega, by omega⟩, .inl ⟨_, rfl, _, _, rfl, rfl, (by decide : (998244353 : Int) ≠ 0), ?_⟩⟩
        refine ⟨_, _, rfl, rfl, .inr ⟨by decide, by decide⟩, .inl ⟨_, rfl, _, _, rfl, rfl, (by decide : (998244353 : Int) ≠ 0), ?_⟩⟩
        refine ⟨_, rfl, _, _, rfl, rfl, ⟨by decide, by decide⟩, .inl ⟨_, rfl, _, rfl, _, _, rfl, rfl, (by omega : n ≠ 0), ?_⟩⟩
        exact fin x' m' i' _ H' he hb' h1 h2 h3 h4 (fmod_rng hn0).1 (fmod_rng hn0).2
    refine ⟨_, rfl, b, _, 0, .int x, rfl, rfl, SqL.of hb, rfl, rfl, _, rfl, ite2 (fun e => ?_) (fun e => ?_)⟩
    ·
      have main : ∀ (cell : Int), 0 ≤ cell → (tSeq (tAugS (tVar 0) (tC (.int 2)) (tC (.int 1)) rGetL (ipI fun i j => i + j) rSetL)
          (tSeq (tIfS (tTest (tOp rGe2 (tVar 2) (tC (.int 1000000000000000000)))) (tAsg (tVar 2) (gSub (tVar 0) (tC (.int 0)) rSetL)) tNext)
          (tSeq (tAsg (tOp rAdd2 (tOp rAdd2 (tOp rMul2 (tAt K 1) (tC (.int 48271))) (tOp rMod2 (tI1 (tVar 2)) (tC (.int 2147483647)))) (tOp rMul2 (tC (.int 7919)) (tAt K 2))) (gName 3))
          (tAsg (tOp rMod2 (tI1 (tVar 3)) (tC (.int 2147483647))) (gSub (tVar 0) (tC (.int 1)) rSetL)))))
          { nx := fun σ' H' => (tSeq (tIfS (tTest (tOp rGt2 (tAt K 0) (tC (.int 0)))) (t_take2 K) tNext) (t_take3 K)) { nx := fun _ H2 => Q .non H2, rt := Q } σ' H', rt := Q } [some (.ref b), some (.int n), some (.int cell), none, none, none, none] H := by
        intro cell hcell
        refine ⟨_, rfl, b, _, 2, .int i, rfl, rfl, hb, rfl, _, _, rfl, rfl, b, _, 2, 2, rfl, rfl, hb, rfl, ?_⟩
        have tail : ∀ (x' : Int) (H' : Hp), (∀ a, a ≠ b → H' a = H a) → H' b = some (bagL x' m (i + 1) c) → 0 ≤ x' →
            (tSeq (tAsg (tOp rAdd2 (tOp rAdd2 (tOp rMul2 (tAt K 1) (tC (.int 48271))) (tOp rMod2 (tI1 (tVar 2)) (tC (.int 2147483647)))) (tOp rMul2 (tC (.int 7919)) (tAt K 2))) (gName 3))
            (tAsg (tOp rMod2 (tI1 (tVar 3)) (tC (.int 2147483647))) (gSub (tVar 0) (tC (.int 1)) rSetL)))
            { nx := fun σ' H' => (tSeq (tIfS (tTest (tOp rGt2 (tAt K 0) (tC (.int 0)))) (t_take2 K) tNext) (t_take3 K)) { nx := fun _ H2 => Q .non H2, rt := Q } σ' H', rt := Q } [some (.ref b), some (.int n), some (.int cell), none, none, none, none] H' := by
          intro x' H' he hb' h1
          refine ⟨_, rfl, b, _, 1, .int m, rfl, rfl, SqL.of hb', rfl, _, _, rfl, rfl, .inr ⟨by decide, by decide⟩, ?_⟩
          refine ⟨_, rfl, .inl ⟨_, rfl, _, _, rfl, rfl, (by decide : (2147483647 : Int) ≠ 0), ?_⟩⟩
          refine ⟨_, _, rfl, rfl, _, rfl, b, _, 2, .int (i + 1), rfl, rfl, SqL.of hb', rfl, _, _, rfl, rfl, .inl ⟨by decide, by decide⟩, ?_⟩
          refine ⟨_, _, rfl, rfl, ?_⟩
          refine ⟨_, rfl, .inl ⟨_, rfl, _, _, rfl, rfl, (by decide : (2147483647 : Int) ≠ 0), ?_⟩⟩
          refine ⟨_, rfl, b, _, 1, 1, rfl, rfl, hb', rfl, ?_⟩
          exact rest _ x' _ (i + 1) _ ⟨_, _, rfl⟩ (fun a ha => by rw [upd_ne ha]; exact he a ha) upd_same h1 (fmod_rng (by decide)).1 (fmod_rng (by decide)).2 (by omega)
        refine ⟨_, rfl, _, _, rfl, rfl, _, rfl, ite2 (fun e => ?_) (fun e => ?_)⟩
        · refine ⟨_, rfl, _, rfl, b, _, 0, 0, rfl, rfl, upd_same, rfl, ?_⟩
          exact tail cell _ (fun a ha => by rw [upd_ne ha, upd_ne ha]) upd_same hcell
        · exact tail x _ (fun a ha => by rw [upd_ne ha]) upd_same hx
      refine ⟨_, rfl, b, _, 2, .int i, rfl, rfl, SqL.of hb, rfl, _, rfl, b, _, 3, .ref c, rfl, rfl, SqL.of hb, rfl, _, ns.length, rfl, .inl ⟨_, hc, by rw [List.length_map]⟩, _, _, rfl, rfl, _, rfl, ite2 (fun e2 => ?_) (fun e2 => ?_)⟩
      · have hlt : i < ns.length := of_decide_eq_true e2
        have hj : i.toNat < ns.length := by omega
        refine ⟨_, rfl, b, _, 3, .ref c, rfl, rfl, SqL.of hb, rfl, _, rfl, b, _, 2, .int i, rfl, rfl, SqL.of hb, rfl, c, _, i, .int ns[i.toNat], rfl, rfl, hc, ?_, ?_⟩
        · have e3 : i = (i.toNat : Int) := by omega
          exact at_of e3 (by rw [List.getElem?_map, List.getElem?_eq_getElem hj]; rfl)
        · exact main _ (hns _ (List.getElem_mem hj))
      · exact main 0 (Int.le_refl _)
    · exact rest _ x m i H ⟨none, none, rfl⟩ (fun _ _ => rfl) hb hx hm0 hm1 hi
end
end DL
set_option Elab.async false
set_option linter.all false
set_option maxRecDepth 100000
set_option maxHeartbeats 4000000
namespace DL
open PySem PySem.Spec PyProof.Rows L2
def absI (i : Int) : Int := if i < 0 then -i else i
def spBag (K : PySem.W.Frag) : Sp := fun vs H Q _ => ∃ (a : Addr) (ns : List Int), vs = [.ref a] ∧ SqL K H a (ns.map V.int) ∧ ns.length ≤ 63 ∧
  ∀ (H' : Hp) (b c : Addr), Same H H' → H b = none → H c = none → b ≠ c → H' b = some (bagL 0 1234567891 0 c) → H' c = some (.lst ((ns.map absI).map V.int)) → Q (.ref b) H'
def rAbs1 : List V → Hp → VK → Prop := fun xs H Q => ∃ i, xs = [.int i] ∧ Q (.int (if i < 0 then -i else i)) H
def t_bag (K : PySem.W.Frag) : TS := tRet (tLst (tCons (tC (.int 0)) (tCons (tC (.int 1234567891)) (tCons (tC (.int 0)) (tCons
  (tLc (iList K (tSl (rSlL K) (tVar 0) tNoPart (tPart (tC (.int 63))))) (gName 1) tYes (tCB rAbs1 (tCons (tVar 1) tNil)) [1]) tNil)))))
theorem same_up {H : Hp} {p : Addr} {o : HO} (h : H p = none) : Same H (upd H p o) := fun b x e => by rw [upd_ne (ne_of_none e h)]; exact e
theorem cut63 {xs : List V} (h : xs.length ≤ 63) : cutV xs none (some 63) = xs := by
  have e : HT.sIx xs.length xs.length (some 63) = xs.length := by
    have z := HT.sIx_nat xs.length xs.length 63
    rw [show HT.sIx xs.length xs.length (some 63) = min 63 xs.length from z]
    omega
  rw [cutL_V]
  exact cutL_all (HT.sIx_none _ _) e
theorem pure_bag {K : PySem.W.Frag} {vs : List V} {H : Hp} {Q : VK} {E : XK} (h : spBag K vs H Q E) : t_bag K { nx := fun _ H2 => Q .non H2, rt := Q } (L2.start ["a", "b"] vs) H := by
  obtain ⟨a, ns, rfl, hS, hl, q⟩ := h
  refine ⟨_, rfl, 63, rfl, a, _, rfl, hS, fun p hp => ?_⟩
  have s1 : Same H (upd H p (.lst (cutV (ns.map V.int) none (some 63)))) := same_up hp
  rw [cut63 (by rw [List.length_map]; exact hl)] at s1 ⊢
  refine ⟨p, rfl, ⟨_, SqL.of upd_same⟩, fun c hc => ?_⟩
  have nc : c ≠ p := fun e => by rw [e, upd_same] at hc; cases hc
  have hcH : H c = none := by rw [upd_ne nc] at hc; exact hc
  refine lc_list (K := K) (a := p) (xs := ns.map V.int) (fun i H' => Same H H' ∧ H' p = some (.lst (ns.map V.int)) ∧ H' c = some (.lst (((ns.take i).map absI).map V.int)))
    ⟨fun b x e => ?_, ?_, upd_same⟩ (fun i H' _ h => SqL.of h.2.1) (fun i x H' hx h => ?_) (fun H' h => ?_)
  · rw [upd_ne (ne_of_none e hcH)]; exact s1 _ _ e
  · rw [upd_ne nc.symm, upd_same]
  · obtain ⟨h1, h2, h3⟩ := h
    obtain ⟨z, hz, rfl⟩ : ∃ z, ns[i]? = some z ∧ x = V.int z := by
      rw [List.getElem?_map] at hx
      cases e : ns[i]? with
      | none => rw [e] at hx; cases hx
      | some z => rw [e] at hx; exact ⟨z, rfl, (Option.some.inj hx).symm⟩
    refine ⟨rfl, _, rfl, z, rfl, _, h3, ?_, fun b y e => ?_, ?_, ?_⟩
    · rw [List.length_map, List.length_map, List.length_take]
      exact Nat.lt_of_le_of_lt (Nat.min_le_right _ _) (small1000 (by omega))
    · rw [upd_ne (ne_of_none e hcH)]; exact h1 _ _ e
    · rw [upd_ne nc.symm]; exact h2
    · rw [upd_same, List.take_add_one, hz, List.map_append, List.map_append]
      rfl
  · obtain ⟨h1, h2, h3⟩ := h
    rw [List.length_map, List.take_length] at h3
    refine ⟨(by show (4 : Nat) ≤ sizeLine; decide), fun b hb => ?_⟩
    have nb : b ≠ c := fun e => by rw [e, h3] at hb; cases hb
    refine q _ b c (fun x y e => ?_) (h1.free hb) hcH nb upd_same (by rw [upd_ne nb.symm]; exact h3)
    rw [upd_ne (ne_of_none (h1 _ _ e) hb)]; exact h1 _ _ e
def TbU (K : PySem.W.Frag) : Prop := ∀ P q q', (P, q) ∈ TbK K → (P, q') ∈ TbK K → q = q'
def spLaw (K : PySem.W.Frag) : Sp := fun vs H Q _ => ∃ (a : Addr) (ns : List Int), vs = [.ref a] ∧ SqL K H a (ns.map V.int) ∧ ns.length ≤ 63 ∧ TbU K ∧ (∀ P q, (P, q) ∈ TbK K → H P = some (.tbl #[])) ∧ ∀ H', Q (.bl true) H'
theorem PSs.sz {X : Cx} {sts : List Stmt} {t : TS} (h : PSs X sts t) : PSs X sts (fun D σ H => HSz H → t D σ H) := ⟨fun pins s σ H D I q => h.run pins s σ H D I (q (HSz.of I.hok))⟩
def bgL (K : PySem.W.Frag) (b c : Addr) : List (Addr × Cell) := (b, Cell.bag c) :: (TbK K).map fun p => (p.1, Cell.tab p.2)
theorem bgL_in {K : PySem.W.Frag} {b c b2 : Addr} {c2 : Cell} (e : (b2, c2) ∈ bgL K b c) : (b2 = b ∧ c2 = .bag c) ∨ ∃ q, (b2, q) ∈ TbK K ∧ c2 = .tab q := by
  rcases List.mem_cons.mp e with z | z
  · cases z; exact .inl ⟨rfl, rfl⟩
  · obtain ⟨⟨P, q⟩, h1, h2⟩ := List.mem_map.mp z
    cases h2
    exact .inr ⟨q, h1, rfl⟩
def bgB (K : PySem.W.Frag) (b c : Addr) (u : TbU K) (nb : ∀ q, (b, q) ∉ TbK K) : Bg K := ⟨bgL K b c, fun P q h => ⟨List.mem_cons_of_mem _ (List.mem_map.mpr ⟨(P, q), h, rfl⟩), fun c2 h2 => by
  rcases bgL_in h2 with ⟨z, _⟩ | ⟨q', h3, z⟩
  · subst z; exact absurd h (nb q)
  · rw [z, u P q' q h3 h]⟩⟩
end DL
set_option Elab.async false
set_option linter.all false
set_option maxRecDepth 100000
set_option maxHeartbeats 4000000
namespace DL
open PySem PySem.Spec PyProof.Rows L2
def obsX (chk : PySem.W.Frag → Bool) (fn : List He.DefD) (K : PySem.W.Frag) : He.AlD := (chk K && fn.all fun d => d.ok K, fn.map fun d => He.fnW K d.at_)
def SaysX (chk : PySem.W.Frag → Bool) (fn : List He.DefD) (K : PySem.W.Frag) : Prop := obsX chk fn K = He.valD fn
section
variable {chk : PySem.W.Frag → Bool} {fn : List He.DefD} {K : PySem.W.Frag}
theorem SaysX.yes (c : SaysX chk fn K) : chk K = true := by
  have z := congrArg (fun z : He.AlD => z.1) c
  exact (Bool.and_eq_true_iff.mp (show (chk K && fn.all fun d => d.ok K) = true from z)).1
theorem SaysX.def_ (c : SaysX chk fn K) (i : Nat) {d : He.DefD} (h : fn[i]? = some d := by rfl) : ∃ fd, FunD K d.name d.qual d.params d.body d.scope (d.dvs K) (d.kws K) (He.fAd K d.at_) fd := by
  have z := congrArg (fun z : He.AlD => z.1) c
  have c2 := (Bool.and_eq_true_iff.mp (show (chk K && fn.all fun d => d.ok K) = true from z)).2
  have e : fn.map (fun d => He.fnW K d.at_) = fn.map He.DefD.val := congrArg (fun z : He.AlD => z.2) c
  have e2 : (fn.map fun d => He.fnW K d.at_)[i]? = (fn.map He.DefD.val)[i]? := by rw [e]
  rw [List.getElem?_map, List.getElem?_map, h] at e2
  exact He.DefD.funD (Option.some.inj e2) (List.all_eq_true.mp c2 d (List.mem_of_getElem? h))
end
theorem fun_of {K : PySem.W.Frag} {x qual : Str} {st : Stmt} {f : Addr} {fd : FuncData} (F : FunD K x qual (defArgs st) (defBody st) (defScope st) [] [] f fd) : Fun K x qual st f fd := by
  obtain ⟨oc, od, dV, kV, doc, pm, an, cdv, ct, osl, e, lk, hcd, hD, hK⟩ := F.ex
  rcases hD with ⟨_, rfl⟩ | ⟨z, _⟩
  · exact ⟨⟨oc, od, kV, doc, pm, an, cdv, ct, osl, e, lk, hcd⟩, F.kp⟩
  · exact absurd rfl z
def dfd (x : Str) (st : Stmt) : He.DefD := ⟨(x, none), x, x, defArgs st, defBody st, defScope st, [], []⟩
theorem Dfn.of {K : PySem.W.Frag} {mg : Str → Option Value} {h : Heap} {x : Str} {st : Stmt} {ps : List Str} (X : K.In h) (G : h.Ns mainGlobals mg) (cg : (He.Fa.glo x).ok K = true)
    (F : ∃ fd, FunD K (dfd x st).name (dfd x st).qual (dfd x st).params (dfd x st).body (dfd x st).scope ((dfd x st).dvs K) ((dfd x st).kws K) (He.fAd K (dfd x st).at_) fd)
    (hb : ∀ (kV doc pm : Value) (an : Option Addr) (cdv ct : Value) (us : List Value), us.length = ps.length → bindArgs (PySem.W.fnOf x x (defArgs st) (defBody st) (defScope st) .none kV doc pm an cdv ct) ⟨us, []⟩ = pure (ps.zip us)) : Dfn K mg x st ps := by
  obtain ⟨fd, F⟩ := F
  have F' : Fun K x x st (He.ga K x) fd := fun_of F
  exact ⟨He.ga K x, fd, F', He.glo_ok X G cg, F'.binds hb⟩
end DL
set_option Elab.async false
set_option linter.all false
set_option maxRecDepth 100000
set_option maxHeartbeats 4000000
namespace DL
open PySem PySem.Spec PyProof.Rows L2
theorem boot_intT : bootBuiltins "int" = some (.type Ty.int.name) := by decide +kernel
theorem boot_boolT : bootBuiltins "bool" = some (.type Ty.bool.name) := by decide +kernel
theorem boot_strT : bootBuiltins "str" = some (.type Ty.str.name) := by decide +kernel
theorem boot_listT : bootBuiltins "list" = some (.type Ty.list.name) := by decide +kernel
theorem boot_tupleT : bootBuiltins "tuple" = some (.type Ty.tuple.name) := by decide +kernel
def repS (z : Str) (k : Nat) : Str := ⟨(List.replicate k z.cps.toList).flatten.toArray⟩
theorem repS_eq (z : Str) (k : Nat) : (⟨(List.replicate k z.cps).foldl (· ++ ·) #[]⟩ : Str) = repS z k := by
  have h : ∀ (k : Nat) (acc : Array Nat), ((List.replicate k z.cps).foldl (· ++ ·) acc) = acc ++ (List.replicate k z.cps.toList).flatten.toArray := by
    intro k
    induction k with
    | zero => intro acc; simp
    | succ k ih =>
      intro acc
      rw [List.replicate_succ, List.foldl_cons, ih, List.replicate_succ, List.flatten_cons, Array.append_assoc]
      congr 1
      simp
  unfold repS
  rw [h]
  simp
def rRepS : R2 := fun x y H Q => ∃ z k, x = .str z ∧ y = .int k ∧ 2 ≤ k ∧ 0 < z.length ∧ z.length * k.toNat ≤ sizeLine ∧ Q (.str (repS z k.toNat)) H
theorem repS_len (z : Str) (k : Nat) : (repS z k).length = z.length * k := by
  show (List.replicate k z.cps.toList).flatten.toArray.size = z.cps.size * k
  simp [Nat.mul_comm]
theorem op_rep_str {X : Cx} : OpR X (binaryOp .Mult) rRepS := by
  intro pins s σ H x y v u Q I rx ry h
  obtain ⟨z, k, rfl, rfl, h2, h0, hz, q⟩ := h
  obtain ⟨t, rfl⟩ := rx
  obtain ⟨t', rfl⟩ := ry
  have hk : k.toNat ≤ sizeLine := by
    refine Nat.le_trans ?_ hz
    exact Nat.le_mul_of_pos_left _ h0
  have hs := sizeLine_eq
  have n1 : ¬ k < 1 := by omega
  have n2 : (k == 1 || z.length == 0) = false := by
    have a1 : (k == 1) = false := by rw [beq_eq_false_iff_ne]; omega
    have a2 : (z.length == 0) = false := by rw [beq_eq_false_iff_ne]; omega
    rw [a1, a2]; rfl
  refine PySem.P.mul_str ?_ (fun _ _ => ?_) (fun _ _ => ?_) ?_
  · rw [decide_eq_false (by omega), decide_eq_false (by omega)]; rfl
  · have e : (z.length : Int) * k ≤ 16777216 := by
      have z2 : ((z.length * k.toNat : Nat) : Int) ≤ (16777216 : Nat) := by rw [← hs]; exact Int.ofNat_le.mpr hz
      rw [Int.natCast_mul, Int.toNat_of_nonneg (by omega)] at z2
      exact z2
    have p : (z.length : Int) ≤ (2 ^ 63 - 1) / k := (Int.le_ediv_iff_mul_le (by omega)).mpr (by omega)
    omega
  · exact decide_eq_false (by show ¬ (z.length * k.toNat > sizeLine); omega)
  · rw [if_neg n1, n2, if_neg Bool.false_ne_true]
    rw [repS_eq]
    refine ⟨?_, .str _, H, I.tok _, ⟨_, rfl⟩, q⟩
    rw [repS_len]; exact hz
def fMulS : FD2 := fun d e δ Q => match d, e with
  | .int i, .int j => CMul i j ∧ Q (.dt (.int (i * j))) δ
  | .lst xs, .int k => -(2 ^ 63) ≤ k ∧ k < 2 ^ 63 ∧ xs.length * k.toNat ≤ sizeLine ∧ Q (.ol (List.replicate k.toNat xs).flatten) δ
  | .str z, .int k => 2 ≤ k ∧ 0 < z.length ∧ z.length * k.toNat ≤ sizeLine ∧ Q (.dt (.str (repS z k.toNat))) δ
  | _, _ => False
theorem mono_fMulS : MonoF2 fMulS := fun d e δ Q Q' q w => by
  unfold fMulS at q ⊢
  split at q
  · exact ⟨q.1, w _ _ q.2⟩
  · exact ⟨q.1, q.2.1, q.2.2.1, w _ _ q.2.2.2⟩
  · exact ⟨q.1, q.2.1, q.2.2.1, w _ _ q.2.2.2⟩
  · exact q
theorem opS_mulS {K : PySem.W.Frag} : OpS K (fun x y H Q => rMulD x y H Q ∨ rRepS x y H Q) fMulS := by
  intro B H0 G0 H σ δ G x y d e Q R hx hy q
  unfold fMulS at q
  split at q
  · exact .inl (opS_mul B H0 G0 H σ δ G x y _ _ Q R hx hy q)
  · exact .inl (opS_mul B H0 G0 H σ δ G x y _ _ Q R hx hy q)
  · cases hx; cases hy
    exact .inr ⟨_, _, rfl, rfl, q.1, q.2.1, q.2.2.1, aft_here R (.str _) q.2.2.2⟩
  · exact q.elim
section
variable {X : Cx} {a b c e : Expr} {ta tb tc : TD} {pos : Pos}
theorem pd_mulS (ha : PD X a ta) (hb : PD X b tb) : PD X (.BinOp a .Mult b pos) (td2 fMulS ta tb) := pd_op (opR_or opR_mulD op_rep_str) mono_fMulS opS_mulS ha hb
theorem pdt_chain {op op' : CmpOp} {r r' : R2} {f g : FD2} (ho : OpR X (compareOp op) r) (ho' : OpR X (compareOp op') r') (mf : MonoF2 f) (mg : MonoF2 g) (o : OpS X.K r f) (o' : OpS X.K r' g) (ha : PD X a ta) (hb : PD X b tb) (hc : PD X c tc)
    (hm : lastMarks [op, op'] [b, c] = false := by with_unfolding_all rfl) : PDT X (.Compare a [op, op'] [b, c] pos) (tdBool (tdChain f g ta tb tc)) := by
  have h := pd_chain (pos := pos) ho ho' mf mg o o' ha hb hc hm
  refine pdt_cmp h (PT.weak (pt_chain ho ho' ha.pe hb.pe hc.pe hm) fun σ H Q q => ?_)
  exact chain_run ha.mono hb.mono hc.mono mf mg o o' σ H _ q
end
end DL
set_option Elab.async false
set_option linter.all false
set_option maxRecDepth 100000
set_option maxHeartbeats 4000000
namespace DL
open PySem PySem.Spec PyProof.Rows L2
def keyOf : Sl → Option Key
  | .dt (.int i) => some (.inl i)
  | .dt (.str x) => some (.inr x)
  | _ => none
def dispD : List (TD × TD) → List Sl → List Key → List D → (List Key → List D → Prop) → Prop
  | [], _, ks, ds, Q => Q ks ds
  | (tk, tv) :: r, δ, ks, ds, Q => tk δ fun a δ1 => δ1 = δ ∧ match keyOf a with
    | none => False
    | some k => tv δ fun b δ2 => δ2 = δ ∧ match fz b with
      | none => False
      | some d => dispD r δ (ks ++ [k]) (ds ++ [d]) Q
def tdDisp (ps : List (TD × TD)) : TD := fun δ Q => dispD ps (hideOwn δ) [] [] fun ks ds => ks.Nodup ∧ ks.length ≤ 15 ∧ Q (.oK ks ds) δ
def MonoP (ps : List (TD × TD)) : Prop := ∀ p ∈ ps, MonoD p.1 ∧ MonoD p.2
theorem dispD_mono : ∀ {ps : List (TD × TD)} {δ : List Sl} {ks : List Key} {ds : List D} {Q Q' : List Key → List D → Prop}, MonoP ps → (∀ ks ds, Q ks ds → Q' ks ds) → dispD ps δ ks ds Q → dispD ps δ ks ds Q'
  | [], _, _, _, _, _, _, w, h => w _ _ h
  | (tk, tv) :: r, δ, ks, ds, Q, Q', m, w, h => (m _ List.mem_cons_self).1 _ _ _ h fun a δ1 h => ⟨h.1, by
      have h2 := h.2
      split
      · rename_i e; rw [e] at h2; exact h2
      · rename_i k e
        rw [e] at h2
        refine (m _ List.mem_cons_self).2 _ _ _ h2 fun b δ2 h3 => ⟨h3.1, ?_⟩
        have h4 := h3.2
        split
        · rename_i e; rw [e] at h4; exact h4
        · rename_i d e; rw [e] at h4; exact dispD_mono (fun p hp => m p (List.mem_cons_of_mem _ hp)) w h4⟩
theorem keyOf_ok {K : PySem.W.Frag} {B : Bg K} {H0 H G : Hp} {σ : L2.St} {δ : List Sl} {v : V} {a : Sl} {k : Key} (ok : ResOk K B H0 H σ δ G v a) (e : keyOf a = some k) : v = kV k := by
  unfold keyOf at e
  split at e
  · cases e; cases ok.1; rfl
  · cases e; cases ok.1; rfl
  · cases e
theorem merge_nd : ∀ (more acc : List (Key × V)), ((acc ++ more).map (·.1)).Nodup → mergeK acc more = acc ++ more
  | [], acc, _ => by show acc = acc ++ []; rw [List.append_nil]
  | (k, v) :: more, acc, h => by
    show mergeK (putK acc k v) more = acc ++ (k, v) :: more
    have nk : valV acc k = none := by
      cases q : valV acc k with
      | none => rfl
      | some y =>
        exfalso
        have hm : k ∈ acc.map (·.1) := by
          unfold valV at q
          obtain ⟨p, hp, _⟩ := Option.map_eq_some_iff.mp q
          have h1 := List.mem_of_find?_eq_some hp
          have h2 := List.find?_some hp
          exact List.mem_map.mpr ⟨p, h1, of_decide_eq_true (by simpa using h2)⟩
        rw [List.map_append] at h
        exact (List.nodup_append.mp h).2.2 k hm k (by simp) rfl
    rw [putK_new v nk, merge_nd more (acc ++ [(k, v)]) (by simpa using h), List.append_assoc]
    rfl
theorem pairs_run {K : PySem.W.Frag} {B : Bg K} {H1 G1 : Hp} {σ : L2.St} {δ : List Sl} {C : List (V × V) → Hp → Prop} : ∀ (ps : List (TD × TD)) (ks : List Key) (ds : List D) (vs : List V) (H2 G2 : Hp) (Qd : List Key → List D → Prop), MonoP ps →
    Rel K B H1 G1 H2 σ δ G2 → ks.length = vs.length → DdA K G2 vs ds → dispD ps δ ks ds Qd →
    (∀ ks' ds' vs' H3 G3, Rel K B H1 G1 H3 σ δ G3 → ks'.length = vs'.length → DdA K G3 vs' ds' → Qd ks' ds' → C ((ks'.zip vs').map fun kv => (kV kv.1, kv.2)) H3) →
    tPairs (ps.map fun p => (tyE K p.1, tyE K p.2)) σ H2 (fun more H3 => C (((ks.zip vs).map fun kv => (kV kv.1, kv.2)) ++ more) H3)
  | [], ks, ds, vs, H2, G2, Qd, _, R, hl, hA, h, fin => by
    show C (((ks.zip vs).map fun kv => (kV kv.1, kv.2)) ++ []) H2
    rw [List.append_nil]
    exact fin ks ds vs H2 G2 R hl hA h
  | (tk, tv) :: r, ks, ds, vs, H2, G2, Qd, m, R, hl, hA, h, fin => by
    obtain ⟨m1, m2⟩ := m _ List.mem_cons_self
    refine ⟨B, H1, G1, δ, G2, R, m1 _ _ _ h fun a δ1 h1 x H3 G3 R3 s3 f3 ok3 => ?_⟩
    obtain ⟨rfl, h1⟩ := h1
    cases ek : keyOf a with
    | none => rw [ek] at h1; exact h1.elim
    | some k =>
      rw [ek] at h1
      have ex := keyOf_ok ok3 ek
      refine ⟨B, H1, G1, δ1, G3, R3, m2 _ _ _ h1 fun b δ2 h2 y H4 G4 R4 s4 f4 ok4 => ?_⟩
      obtain ⟨rfl, h2⟩ := h2
      cases ed : fz b with
      | none => rw [ed] at h2; exact h2.elim
      | some d =>
        rw [ed] at h2
        obtain ⟨G5, R5, s5, hd⟩ := freeze R4 ok4 ed
        have z := pairs_run r (ks ++ [k]) (ds ++ [d]) (vs ++ [y]) H4 G5 Qd (fun p hp => m p (List.mem_cons_of_mem _ hp)) R5 (by simp [hl]) ((DdA.mono ((s3.trans s4).trans s5) _ _ hA).append (.one hd)) h2 fin
        rw [List.zip_append hl, List.map_append] at z
        subst ex
        have e : ∀ more : List (V × V), (ks.zip vs).map (fun kv => (kV kv.1, kv.2)) ++ (kV k, y) :: more = (ks.zip vs).map (fun kv => (kV kv.1, kv.2)) ++ ([k].zip [y]).map (fun kv => (kV kv.1, kv.2)) ++ more := fun more => by simp
        show tPairs _ σ H4 (fun more H5 => C (((ks.zip vs).map fun kv => (kV kv.1, kv.2)) ++ (kV k, y) :: more) H5)
        simp only [e]
        exact z
structure PDP (X : Cx) (pos : Pos) (keys : List (Option Expr)) (values : List Expr) (ps : List (TD × TD)) : Prop where
  pp : PPs X pos keys values (ps.map fun p => (tyE X.K p.1, tyE X.K p.2))
  mono : MonoP ps
section
variable {X : Cx} {pos : Pos} {k v : Expr} {ks : List (Option Expr)} {vs : List Expr} {tk tv : TD} {ps : List (TD × TD)}
theorem pdp_nil : PDP X pos [] [] [] := ⟨pps_nil, fun _ h => (List.not_mem_nil h).elim⟩
theorem pdp_cons (hk : PD X k tk) (hv : PD X v tv) (hr : PDP X pos ks vs ps) : PDP X pos (some k :: ks) (v :: vs) ((tk, tv) :: ps) := ⟨pps_cons hk.pe hv.pe hr.pp, fun p hp => by
  rcases List.mem_cons.mp hp with rfl | hp
  · exact ⟨hk.mono, hv.mono⟩
  · exact hr.mono p hp⟩
theorem pd_disp {keys : List (Option Expr)} {values : List Expr} (h : PDP X pos keys values ps) (hall : keys.all (·.isSome) = true) (hl : keys.length = values.length) (h0 : keys ≠ []) (h15 : keys.length ≤ 15) : PD X (.Dict keys values pos) (tdDisp ps) := by
  refine ⟨PE.weak (pe_disp h.pp hall hl h0 h15) fun σ H Q ⟨B, H0, G0, δ, G, R, q⟩ => fun p hp => ?_, fun δ Q Q' q w => dispD_mono h.mono (fun ks ds q => ⟨q.1, q.2.1, w _ _ q.2.2⟩) q⟩
  obtain ⟨p0, pB, pO⟩ := R.newOwn hp
  have R1 : Rel X.K B H0 G0 (upd H p (.dK [])) σ δ G := R.laidO hp (Nat.zero_le _)
  have z := pairs_run (C := fun prs H2 => H2 p = some (.dK []) ∧ ∃ kvs : List (Key × V), prs = kvs.map (fun kv => (kV kv.1, kv.2)) ∧ kvs.length ≤ 15 ∧ Q (.ref p) (upd H2 p (.dK (mergeK [] kvs)))) ps [] [] [] _ _ _ h.mono R1.inner rfl .nil q
    (fun ks' ds' vs' H3 G3 R3 hl3 hA3 q3 => ?_)
  · exact z
  · have e1 : H3 p = some (.dK []) := R3.ent _ _ upd_same pB
    have g3 : G3 p = none := by
      cases y : G3 p with
      | none => rfl
      | some o =>
        rcases R3.gn _ _ y with y | y
        · rw [R.sub.free hp] at y; cases y
        · rw [upd_same] at y; cases y
    obtain ⟨nd, n15, q4⟩ := q3
    have lz : (ks'.zip vs').length = ks'.length := by rw [List.length_zip, ← hl3, Nat.min_self]
    have em : mergeK [] (ks'.zip vs') = ks'.zip vs' := merge_nd _ _ (by
      rw [List.nil_append, List.map_fst_zip (Nat.le_of_eq hl3)]; exact nd)
    refine ⟨e1, ks'.zip vs', rfl, by rw [lz]; exact n15, ?_⟩
    rw [em]
    have R4 : Rel X.K B H0 G0 H3 σ δ G3 := R1.outer R3
    have so : SzO (.dK (ks'.zip vs')) := by
      show (ks'.zip vs').length ≤ sizeLine
      rw [lz]
      exact Nat.le_trans n15 (by decide)
    have R5 := R4.writeFree (o := .dK (ks'.zip vs')) p0 g3 pB (fun j oj => pO j oj) so
    refine q4 (.ref p) _ G3 R5 R3.g0 (fun a o e n => ?_) ⟨⟨p, rfl, g3, vs', hl3, upd_same, hA3⟩, fun z => (nomatch z), fun _ a e => ?_⟩
    · have na : a ≠ p := ne_of_none e hp
      rw [upd_ne na]
      exact R3.ent a o (by rw [upd_ne na]; exact e) n
    · cases e; exact ⟨p0, pB, pO⟩
end
section
variable {X : Cx} {pos : Pos} {x : Str}
theorem pd_gint {v : Int} (h : ∃ t, X.mg x = some (.int v t)) (hg : Gl X x) (hd : (x == ("__debug__" : Str)) = false := by decide) : PD X (.Name x pos) (tdC (.int v)) := by
  obtain ⟨t, h⟩ := h
  exact pd_c (v := .int v) (pe_glob hg h ⟨t, rfl⟩ hd) fun _ => .int v
theorem pd_gtup {a : Addr} {vs : List V} {ds : List D} (h : X.mg x = some (.ref a)) (ht : ∀ G, SqT X.K G a vs) (hA : ∀ G, DdA X.K G vs ds) (hg : Gl X x) (hd : (x == ("__debug__" : Str)) = false := by decide) (hs : ∀ x ∈ vs, ∃ s, x = V.str s := by simp) : PD X (.Name x pos) (tdC (.tup ds)) :=
  pd_c (v := .ref a) (pe_glob hg h rfl hd) fun G => .tup (.inr ⟨ht _, hs⟩) (hA G)
end
end DL
set_option Elab.async false
set_option linter.all false
set_option maxRecDepth 100000
set_option maxHeartbeats 4000000
namespace DL
open PySem PySem.Spec PyProof.Rows L2
def tf1 (pre : D → Prop) (f : D → Sl) : TF := fun rs Q => match rs with
  | [.dt d] => pre d ∧ Q (f d)
  | _ => False
theorem mono_tf1 {pre : D → Prop} {f : D → Sl} : MonoF (tf1 pre f) := fun rs Q Q' q w => by
  unfold tf1 at q ⊢
  split at q
  · exact ⟨q.1, w _ q.2⟩
  · exact q
theorem len_tf1 {pre : D → Prop} {f : D → Sl} : ∀ rs Q, tf1 pre f rs Q → rs.length = 1 := fun rs Q q => by
  unfold tf1 at q
  split at q
  · rfl
  · exact q.elim
theorem tf1_in {pre : D → Prop} {f : D → Sl} {rs : List Sl} {Q : Sl → Prop} (h : tf1 pre f rs Q) : ∃ d, rs = [.dt d] ∧ pre d ∧ Q (f d) := by
  unfold tf1 at h
  split at h
  · exact ⟨_, rfl, h⟩
  · exact h.elim
def tf2 (pre : D → D → Prop) (f : D → D → Sl) : TF := fun rs Q => match rs with
  | [.dt d, .dt e] => pre d e ∧ Q (f d e)
  | _ => False
theorem mono_tf2 {pre : D → D → Prop} {f : D → D → Sl} : MonoF (tf2 pre f) := fun rs Q Q' q w => by
  unfold tf2 at q ⊢
  split at q
  · exact ⟨q.1, w _ q.2⟩
  · exact q
theorem len_tf2 {pre : D → D → Prop} {f : D → D → Sl} : ∀ rs Q, tf2 pre f rs Q → rs.length = 2 := fun rs Q q => by
  unfold tf2 at q
  split at q
  · rfl
  · exact q.elim
theorem tf2_in {pre : D → D → Prop} {f : D → D → Sl} {rs : List Sl} {Q : Sl → Prop} (h : tf2 pre f rs Q) : ∃ d e, rs = [.dt d, .dt e] ∧ pre d e ∧ Q (f d e) := by
  unfold tf2 at h
  split at h
  · exact ⟨_, _, rfl, h⟩
  · exact h.elim
def tDraw (P : D → Prop) : TF := fun rs Q => match rs with
  | [.bag] => ∀ x, P x → Q (.dt x)
  | _ => False
theorem mono_tDraw {P : D → Prop} : MonoF (tDraw P) := fun rs Q Q' q w => by
  unfold tDraw at q ⊢
  split at q
  · exact fun x h => w _ (q x h)
  · exact q
theorem len_tDraw {P : D → Prop} : ∀ rs Q, tDraw P rs Q → rs.length = 1 := fun rs Q q => by
  unfold tDraw at q
  split at q
  · rfl
  · exact q.elim
theorem tDraw_in {P : D → Prop} {rs : List Sl} {Q : Sl → Prop} (h : tDraw P rs Q) : rs = [.bag] ∧ ∀ x, P x → Q (.dt x) := by
  unfold tDraw at h
  split at h
  · exact ⟨rfl, h⟩
  · exact h.elim
theorem tOne_in {rs : List Sl} {Q : Sl → Prop} (h : tOne rs Q) : ∃ xs, rs = [.bag, .dt (.lst xs)] ∧ 0 < xs.length ∧ xs.length < 1073741824 ∧ ∀ (i : Nat) (x : D), xs[i]? = some x → Q (.dt x) := by
  unfold tOne at h
  split at h
  · exact ⟨_, rfl, h⟩
  · exact h.elim
theorem atI_of {α : Type} {xs : List α} {z : Int} {j : Nat} {v : α} (e : z = (j : Int)) (h : xs[j]? = some v) : L2.atI xs z = some v := by
  have hj := (List.getElem?_eq_some_iff.mp h).1
  unfold L2.atI ixN
  rw [e, if_pos (Int.natCast_nonneg j), if_pos (by omega)]
  show xs[(j : Int).toNat]? = some v
  rw [Int.toNat_natCast]
  exact h
theorem atI_zero {α : Type} {x : α} {xs : List α} : L2.atI (x :: xs) 0 = some x := atI_of (j := 0) rfl rfl
theorem comp_draw {g : TDG} {te : TD} {δw : List Sl} {P : D → Prop} (hte : ∀ (d : D) (C : D → Prop), (∀ y, P y → C y) → g d δw fun δ1 => te δ1 fun r δ3 => δ3 = δ1 ∧ match fz r with | some y => C y | none => False) (mg : MonoG g) :
    ∀ (ds acc : List D) (Q : List D → Prop), (∀ ys, ys.length = ds.length → (∀ y ∈ ys, P y) → Q (acc ++ ys)) → compD g tdYes te δw ds acc Q
  | [], acc, Q, h => by
    have z := h [] rfl (fun _ hy => (List.not_mem_nil hy).elim)
    rw [List.append_nil] at z
    exact z
  | d :: ds, acc, Q, h => mg _ _ _ _ (hte d (fun y => compD g tdYes te δw ds (acc ++ [y]) Q) fun y hy => comp_draw hte mg ds (acc ++ [y]) Q fun ys hl hys => by
      rw [List.append_assoc]
      exact h (y :: ys) (by rw [List.length_cons, hl, List.length_cons]) fun z hz => by
        rcases List.mem_cons.mp hz with rfl | hz
        · exact hy
        · exact hys z hz) fun δ1 q => ⟨rfl, by rw [if_pos rfl]; exact q⟩
mutual
def smallB : D → Bool
  | .int i => decide (i.natAbs < 10 ^ 78)
  | .str x => PyData.strOk x
  | .lst xs => smallBA xs
  | .tup xs => smallBA xs
  | .dK ks vs => ks.all smallK && smallBA vs
  | .dT _ _ => false
  | .dL _ _ => false
  | .ins _ _ _ => false
  | _ => true
def smallBA : List D → Bool
  | [] => true
  | x :: xs => smallB x && smallBA xs
end
mutual
theorem smallB_ok : ∀ d : D, smallB d = true → smallD d
  | .non, _ => trivial
  | .bl _, _ => trivial
  | .int i, h => (of_decide_eq_true h : i.natAbs < 10 ^ 78)
  | .str _, h => h
  | .lst xs, h => smallBA_ok xs h
  | .tup xs, h => smallBA_ok xs h
  | .dK ks vs, h => by
    have h' : (ks.all smallK && smallBA vs) = true := h
    rw [Bool.and_eq_true] at h'
    exact ⟨h'.1, smallBA_ok vs h'.2⟩
  | .dT _ _, h => by cases h
  | .dL _ _, h => by cases h
  | .ins _ _ _, h => by cases h
theorem smallBA_ok : ∀ xs : List D, smallBA xs = true → smallA xs
  | [], _ => trivial
  | x :: xs, h => by
    have h' : (smallB x && smallBA xs) = true := h
    rw [Bool.and_eq_true] at h'
    exact ⟨smallB_ok x h'.1, smallBA_ok xs h'.2⟩
end
def Scal : D → Prop
  | .non => True
  | .bl _ => True
  | .int i => i.natAbs < 10 ^ 78
  | .str x => PyData.strOk x = true ∧ x.length ≤ 90
  | _ => False
theorem Scal.facts {d : D} (h : Scal d) : plainD d = true ∧ smallD d ∧ costD d ≤ 1000 ∧ (py d).depth = 0 ∧ (py d).hasDict = false ∧ (py d).canLay0 = true ∧ d.isIns = false := by
  cases d <;> first | exact h.elim | skip
  · exact ⟨rfl, trivial, by decide, rfl, rfl, rfl, rfl⟩
  · exact ⟨rfl, trivial, by show (5 : Nat) ≤ 1000; decide, rfl, rfl, rfl, rfl⟩
  · exact ⟨rfl, h, by show (80 : Nat) ≤ 1000; decide, rfl, rfl, rfl, rfl⟩
  · exact ⟨rfl, h.1, by show 10 * _ + 2 ≤ 1000; have := h.2; omega, rfl, rfl, h.1, rfl⟩
theorem Scal.show {d : D} (h : Scal d) : ShowOk d := by
  obtain ⟨h1, h2, h3, h4, h5, _⟩ := h.facts
  exact showOk_of h1 h2 (Nat.le_trans h3 (by decide)) (by rw [h4]; decide) (.inl h5)
theorem Scal.shaped {d : D} (h : Scal d) : SeqAt.shaped (py d) = true := by
  obtain ⟨_, _, _, h4, _, h6, _⟩ := h.facts
  unfold SeqAt.shaped
  rw [h6, h4]
  rfl
theorem mono_gdName {i : Nat} : MonoG (gdName i) := fun d δ Q Q' q w => w _ q
theorem seq_N {s T : TDS} {D : EndsD} {δ : List Sl} (Inv : List Sl → Prop) (h1 : ∀ N : List Sl → Prop, (∀ δ', Inv δ' → N δ') → s { D with nx := N } δ) (h2 : ∀ δ', Inv δ' → T D δ') : tdSeq s T D δ := h1 _ h2
theorem forD_N {g : TDG} {tb : TDS} {D : EndsD} (Inv : List Sl → Prop)
    (step : ∀ d δ (N : List Sl → Prop), (∀ δ', Inv δ' → N δ') → Inv δ → g d δ fun δ1 => tb { D with nx := N, ct := N, bk := D.nx } δ1) (done : ∀ δ, Inv δ → D.nx δ) : ∀ (ds : List DL.D) (δ : List Sl), Inv δ → forD g tb D ds δ
  | [], δ, h => done δ h
  | d :: ds, δ, h => step d δ _ (fun δ' q => forD_N Inv step done ds δ' q) h
theorem fEq_str {a : Str} {δ : List Sl} {Q : QD} (q : Q (.dt (.bl true)) δ) : fEq (.str a) (.str a) δ Q := by
  show Q (.dt (.bl (decide (a = a)))) δ
  rw [decide_eq_true rfl]; exact q
end DL
set_option Elab.async false
set_option linter.all false
set_option maxRecDepth 100000
set_option maxHeartbeats 4000000
namespace DL
open PySem PySem.Spec PyProof.Rows L2
def Top (K : PySem.W.Frag) (B : Bg K) (H G : Hp) (v : V) : D → Prop
  | .lst ds => ∃ a xs, v = .ref a ∧ NotB B a ∧ H a = some (.lst xs) ∧ DdA K G xs ds
  | .dK ks ds => ∃ a xs, v = .ref a ∧ NotB B a ∧ ks.length = xs.length ∧ Rd H a (.dK (ks.zip xs)) ∧ DdA K G xs ds
  | .dT ks ds => ∃ a xs, v = .ref a ∧ NotB B a ∧ ks.length = xs.length ∧ Rd H a (.dT (ks.zip xs)) ∧ DdA K G xs ds
  | .dL ks ds => ∃ a xs, v = .ref a ∧ NotB B a ∧ ks.length = xs.length ∧ Rd H a (.dK (ks.zip xs)) ∧ DdA K G xs ds
  | d => Dd K G v d
section
variable {K : PySem.W.Frag} {B : Bg K} {H0 G0 H H' G G' : Hp} {σ : L2.St} {δ : List Sl}
theorem Rel.notB (R : Rel K B H0 G0 H σ δ G) {a : Addr} {o : HO} (h : G a = some o) : NotB B a := fun c e => by
  have z := (R.bag a c e).gn
  rw [z] at h; cases h
theorem Rel.notBr (R : Rel K B H0 G0 H σ δ G) {a : Addr} {u : HO} (h : Rd G a u) : NotB B a := h.elim R.notB fun ⟨_, z⟩ => R.notB z
theorem Top.of (R : Rel K B H0 G0 H σ δ G) {v : V} {d : D} (h : Dd K G v d) : Top K B H G v d := by
  cases h with
  | lst h1 h2 => exact ⟨_, _, rfl, R.notB h1, R.sub _ _ h1, h2⟩
  | dK h0 h1 h2 => exact ⟨_, _, rfl, R.notBr h1, h0, rdS R.sub h1, h2⟩
  | dT h0 h1 h2 => exact ⟨_, _, rfl, R.notB h1, h0, .inr ⟨_, R.sub _ _ h1⟩, h2⟩
  | dL h0 h1 h2 => exact ⟨_, _, rfl, R.notB h1, h0, .inr ⟨_, R.sub _ _ h1⟩, h2⟩
  | non => exact .non
  | bl b => exact .bl b
  | int i => exact .int i
  | str x => exact .str x
  | tup h1 h2 => exact .tup h1 h2
  | ins h0 h1 h2 => exact .ins h0 h1 h2
theorem Top.step {v : V} {d : D} (h : Top K B H G v d) (s : Same G G') (f : Fra B H H') : Top K B H' G' v d := by
  cases d with
  | lst ds => obtain ⟨a, xs, e, nb, h1, h2⟩ := h; exact ⟨a, xs, e, nb, f _ _ h1 nb, DdA.mono s _ _ h2⟩
  | dK ks ds => obtain ⟨a, xs, e, nb, h0, h1, h2⟩ := h; exact ⟨a, xs, e, nb, h0, h1.imp (fun z => f _ _ z nb) (fun ⟨o, z⟩ => ⟨o, f _ _ z nb⟩), DdA.mono s _ _ h2⟩
  | dT ks ds => obtain ⟨a, xs, e, nb, h0, h1, h2⟩ := h; exact ⟨a, xs, e, nb, h0, h1.imp (fun z => f _ _ z nb) (fun ⟨o, z⟩ => ⟨o, f _ _ z nb⟩), DdA.mono s _ _ h2⟩
  | dL ks ds => obtain ⟨a, xs, e, nb, h0, h1, h2⟩ := h; exact ⟨a, xs, e, nb, h0, h1.imp (fun z => f _ _ z nb) (fun ⟨o, z⟩ => ⟨o, f _ _ z nb⟩), DdA.mono s _ _ h2⟩
  | non => exact Dd.mono s _ _ h
  | bl b => exact Dd.mono s _ _ h
  | int i => exact Dd.mono s _ _ h
  | str x => exact Dd.mono s _ _ h
  | tup ds => exact Dd.mono s _ _ h
  | ins C ns ds => exact Dd.mono s _ _ h
theorem Top.seq (R : Rel K B H0 G0 H σ δ G) {v : V} {d : D} {xs : List D} (h : Top K B H G v d) (e : seqOf d = some xs) : ∃ a vs, v = .ref a ∧ (SqL K H a vs ∨ SqT K H a vs) ∧ DdA K G vs xs := by
  cases d <;> first | cases e | skip
  · obtain ⟨a, vs, rfl, nb, h1, h2⟩ := h; exact ⟨a, vs, rfl, .inl (SqL.of h1), h2⟩
  · cases h with
    | tup h1 h2 => exact ⟨_, _, rfl, .inr (sameT R.sub h1), h2⟩
end
abbrev TDV := List Sl → (D → List Sl → Prop) → Prop
def MonoV (t : TDV) : Prop := ∀ δ (Q Q' : D → List Sl → Prop), t δ Q → (∀ d δ', Q d δ' → Q' d δ') → t δ Q'
def AftV (K : PySem.W.Frag) (B : Bg K) (H0 G0 H : Hp) (σ : L2.St) (G : Hp) (Q : VK) : D → List Sl → Prop := fun d δ' => ∀ v H' G', Rel K B H0 G0 H' σ δ' G' → Same G G' → Fra B H H' → Top K B H' G' v d → Q v H'
def tyVw (K : PySem.W.Frag) (t : TDV) : TE := fun σ H Q => ∃ B H0 G0 δ G, Rel K B H0 G0 H σ δ G ∧ t δ (AftV K B H0 G0 H σ G Q)
structure PDV (X : Cx) (e : Expr) (t : TDV) : Prop where
  pe : PE X e (tyVw X.K t)
  mono : MonoV t
def vwOf (t : TD) : TDV := fun δ Q => t δ fun r δ' => match fz r with
  | some d => Q d δ'
  | none => False
def vwVar (i : Nat) : TDV := fun δ Q => match δ[i]? with
  | some (.dt d) => Q d δ
  | some (.ol ds) => Q (.lst ds) δ
  | some (.oK ks vs) => Q (.dK ks vs) δ
  | some (.oT ks vs) => Q (.dT ks vs) δ
  | some (.oL _ ds) => Q (.lst ds) δ
  | _ => False
section
variable {X : Cx} {e a b : Expr} {pos : Pos} {ta : TD} {va vb : TDV}
theorem pdv_of (h : PD X e ta) : PDV X e (vwOf ta) := by
  refine ⟨PE.weak h.pe fun σ H Q ⟨B, H0, G0, δ, G, R, q⟩ => ?_, fun δ Q Q' q w => h.mono _ _ _ q fun r δ' q => ?_⟩
  · exact ev_data h.mono (kk := fun d δ' => AftV X.K B H0 G0 H σ G Q d δ') R q fun d δ1 v H1 G1 R1 s1 f1 hd hq => hq v H1 G1 R1 s1 f1 (Top.of R1 hd)
  · cases e : fz r with
    | none => rw [e] at q; exact q
    | some d => rw [e] at q; exact w _ _ q
theorem pdv_var {i : Nat} (h : PE X e (tVar i)) : PDV X e (vwVar i) := by
  refine ⟨PE.weak h fun σ H Q ⟨B, H0, G0, δ, G, R, q⟩ => ?_, fun δ Q Q' q w => ?_⟩
  · unfold vwVar at q
    cases e1 : δ[i]? with
    | none => rw [e1] at q; exact q.elim
    | some s =>
      rw [e1] at q
      cases s with
      | no => exact q.elim
      | hd _ _ _ _ => exact q.elim
      | bag => exact q.elim
      | cnt => exact q.elim
      | xcp _ _ _ _ _ => exact q.elim
      | fn _ _ _ _ _ => exact q.elim
      | tb _ _ => exact q.elim
      | dt d =>
        rcases R.sl i _ e1 with z | ⟨v, ev, ok⟩
        · cases z
        · exact ⟨v, ev, q v H G R (Same.refl _) (Fra.refl _ _) (Top.of R ok)⟩
      | ol ds =>
        rcases R.sl i _ e1 with z | ⟨v, ev, a, rfl, ga, xs, h1, h2⟩
        · cases z
        · exact ⟨_, ev, q _ H G R (Same.refl _) (Fra.refl _ _) ⟨a, xs, rfl, (R.own i a ⟨ev, _, e1, rfl⟩).2.2, h1, h2⟩⟩
      | oK ks ds =>
        rcases R.sl i _ e1 with z | ⟨v, ev, a, rfl, ga, xs, h0, h1, h2⟩
        · cases z
        · exact ⟨_, ev, q _ H G R (Same.refl _) (Fra.refl _ _) ⟨a, xs, rfl, (R.own i a ⟨ev, _, e1, rfl⟩).2.2, h0, .inl h1, h2⟩⟩
      | oT ks ds =>
        rcases R.sl i _ e1 with z | ⟨v, ev, a, rfl, ga, xs, h0, h1, h2⟩
        · cases z
        · exact ⟨_, ev, q _ H G R (Same.refl _) (Fra.refl _ _) ⟨a, xs, rfl, (R.own i a ⟨ev, _, e1, rfl⟩).2.2, h0, .inl h1, h2⟩⟩
      | oI x0 C ks ds => exact q.elim
      | oL x0 ds =>
        rcases R.sl i _ e1 with z | ⟨v, ev, a, rfl, ga, ex, xs, h1, h2⟩
        · cases z
        · exact ⟨_, ev, q _ H G R (Same.refl _) (Fra.refl _ _) ⟨a, xs, rfl, (R.own i a ⟨ev, _, e1, rfl⟩).2.2, h1, h2⟩⟩
  · unfold vwVar at q ⊢
    split at q <;> first | exact q.elim | exact w _ _ q
def OpV (K : PySem.W.Frag) (r : R2) (f : FD2) : Prop := ∀ (B : Bg K) (H0 G0 H : Hp) (σ : L2.St) (δ : List Sl) (G : Hp) (x y : V) (d e : D) (Q : VK),
  Rel K B H0 G0 H σ δ G → Top K B H G x d → Top K B H G y e → f d e δ (Aft K B H0 G0 H σ G Q) → r x y H Q
def td2V (f : FD2) (ta tb : TDV) : TD := fun δ Q => ta δ fun d δ1 => tb δ1 fun e δ2 => f d e δ2 Q
theorem pd_binV {r : R2} {f : FD2} (ha : PDV X a va) (hb : PDV X b vb) (mf : MonoF2 f) (o : OpV X.K r f) (rule : PE X e (tOp r (tyVw X.K va) (tyVw X.K vb))) : PD X e (td2V f va vb) := by
  refine ⟨PE.weak rule fun σ H Q ⟨B, H0, G0, δ, G, R, q⟩ => ⟨B, H0, G0, δ, G, R, ha.mono _ _ _ q fun d δ1 q1 v H1 G1 R1 s1 f1 t1 => ⟨B, H0, G0, δ1, G1, R1, hb.mono _ _ _ q1 fun e δ2 q2 w H2 G2 R2 s2 f2 t2 => ?_⟩⟩, fun δ Q Q' q w => ha.mono _ _ _ q fun d δ1 q1 => hb.mono _ _ _ q1 fun e δ2 q2 => mf _ _ _ _ _ q2 w⟩
  exact o B H0 G0 H2 σ δ2 G2 v w d e Q R2 (t1.step s2 f2) t2 (mf _ _ _ _ _ q2 (aft_step (s1.trans s2) (f1.trans f2)))
end
section
variable {K : PySem.W.Frag}
theorem opV_ix : OpV K (rIx K) fIx := by
  intro B H0 G0 H σ δ G x y d e Q R hx hy q
  unfold fIx at q
  split at q
  · cases hy
    split at q
    · obtain ⟨z, e1, q⟩ := q
      obtain ⟨a, xs, rfl, nb, h1, h2⟩ := hx
      obtain ⟨v, e2, hv⟩ := h2.atI e1
      exact .inl ⟨_, _, _, v, rfl, rfl, SqL.of h1, e2, aft_here R hv q⟩
    · obtain ⟨z, e1, q⟩ := q
      cases hx with
      | tup h1 h2 =>
        obtain ⟨v, e2, hv⟩ := h2.atI e1
        exact .inr (.inl ⟨_, _, _, v, rfl, rfl, sameT R.sub h1, e2, aft_here R hv q⟩)
    · obtain ⟨q1, c, e1, q2⟩ := q
      cases hx
      exact .inr (.inr ⟨_, _, _, rfl, rfl, q1, e1, aft_here R (.str _) q2⟩)
    · exact q.elim
  · exact q.elim
theorem opV_add : OpV K (rAddD K) fAdd := by
  intro B H0 G0 H σ δ G x y d e Q R hx hy q
  unfold fAdd at q
  split at q
  · cases hx; cases hy
    exact .inl (.inl ⟨_, _, rfl, rfl, aft_here R (.int _) q⟩)
  · cases hx; cases hy
    exact .inl (.inr ⟨_, _, rfl, rfl, q.1, aft_here R (.str _) q.2⟩)
  · obtain ⟨a, xs, rfl, nb, h1, h2⟩ := hx
    obtain ⟨b, ys, rfl, nb', h3, h4⟩ := hy
    have z := q.1
    rw [← h2.len, ← h4.len] at z
    refine .inr (.inl ⟨_, _, _, _, rfl, rfl, h1, h3, z, fun p hp => ?_⟩)
    exact aft_own (s := .ol _) R hp (le_app z) rfl ⟨_, upd_same, h2.append h4⟩ q.2
  · exact opS_add B H0 G0 H σ δ G x y _ _ Q R hx hy q
  · exact q.elim
end
section
variable {X : Cx} {e a b : Expr} {es : List Expr} {pos p p2 : Pos} {ta tb : TD} {va vb : TDV} {u : TDA}
theorem pd_ixV (ha : PDV X a va) (hb : PDV X b vb) (hs : PlainIx b) : PD X (.Subscript a b pos) (td2V fIx va vb) := pd_binV ha hb mono_fIx opV_ix (pe_ix ix_seq ha.pe hb.pe hs)
theorem pd_addV (ha : PDV X a va) (hb : PDV X b vb) : PD X (.BinOp a .Add b pos) (td2V fAdd va vb) := pd_binV ha hb mono_fAdd opV_add (pe_op opR_addD ha.pe hb.pe)
def td1V (g : D → List Sl → QD → Prop) (t : TDV) : TD := fun δ Q => t δ fun d δ' => g d δ' Q
theorem pd_1V {r : List V → Hp → VK → Prop} {g : D → List Sl → QD → Prop} (mg : ∀ d δ (Q Q' : QD), g d δ Q → (∀ r δ', Q r δ' → Q' r δ') → g d δ Q')
    (o : ∀ (B : Bg X.K) (H0 G0 H : Hp) (σ : L2.St) (δ : List Sl) (G : Hp) (v : V) (d : D) (Q : VK), Rel X.K B H0 G0 H σ δ G → Top X.K B H G v d → g d δ (Aft X.K B H0 G0 H σ G Q) → r [v] H Q)
    (h : PDV X a va) (rule : PE X e (tCB r (tCons (tyVw X.K va) tNil))) : PD X e (td1V g va) :=
  ⟨PE.weak rule fun σ H Q ⟨B, H0, G0, δ, G, R, q⟩ => ⟨B, H0, G0, δ, G, R, h.mono _ _ _ q fun d δ1 q1 v H1 G1 R1 s1 f1 t1 => o B H0 G0 H1 σ δ1 G1 v d Q R1 t1 (mg _ _ _ _ q1 (aft_step s1 f1))⟩,
    fun δ Q Q' q w => h.mono _ _ _ q fun d δ1 q1 => mg _ _ _ _ q1 w⟩
theorem pd_lenV (hg : Gl X "len") (hm : X.mg "len" = none) (h : PDV X e va) (he : starEach [e] X.env = (false, eval e X.env) :: starEach [] X.env := by rfl) (hpl : (backTo pos (starEach [] X.env)).any (·.1) = false := by rfl) :
    PD X (.Call (.Name "len" p) [e] [] pos) (td1V gLen va) :=
  pd_1V (fun d δ Q Q' q w => by unfold gLen at q ⊢; split at q <;> first | exact w _ _ q | exact ⟨q.1, w _ _ q.2⟩ | exact q)
    (fun B H0 G0 H σ δ G v d Q R hd q => by
      unfold gLen at q
      split at q
      · obtain ⟨a, xs, rfl, nb, h1, h2⟩ := hd
        exact .inl ⟨_, _, rfl, .inl ⟨_, SqL.of h1, rfl⟩, aft_here R (.int _) (h2.len ▸ q)⟩
      · cases hd with
        | tup h1 h2 => exact .inl ⟨_, _, rfl, .inr ⟨_, sameT R.sub h1, rfl⟩, aft_here R (.int _) (h2.len ▸ q)⟩
      · cases hd
        exact .inl ⟨_, _, rfl, ⟨q.1, rfl⟩, aft_here R (.int _) q.2⟩
      · rename_i ks _
        obtain ⟨a, xs, rfl, nb, h0, h1, h2⟩ := hd
        refine .inr ⟨_, rfl, .inl ⟨_, h1, ?_⟩⟩
        have z : (ks.zip xs).length = ks.length := by rw [List.length_zip, ← h0, Nat.min_self]
        rw [z]
        exact aft_here R (.int _) q
      · rename_i ks _
        obtain ⟨a, xs, rfl, nb, h0, h1, h2⟩ := hd
        refine .inr ⟨_, rfl, .inr ⟨_, h1, ?_⟩⟩
        have z : (ks.zip xs).length = ks.length := by rw [List.length_zip, ← h0, Nat.min_self]
        rw [z]
        exact aft_here R (.int _) q
      · rename_i ks _
        obtain ⟨a, xs, rfl, nb, h0, h1, h2⟩ := hd
        refine .inr ⟨_, rfl, .inl ⟨_, h1, ?_⟩⟩
        have z : (ks.zip xs).length = ks.length := by rw [List.length_zip, ← h0, Nat.min_self]
        rw [z]
        exact aft_here R (.int _) q
      · exact q.elim) h (pe_callB callR_len hg hm PySem.boot_len (pa_cons h.pe pa_nil he) (by decide) (by decide) he hpl)
theorem pd_listV (hg : Gl X "list") (hm : X.mg "list" = none) (h : PDV X e va) (he : starEach [e] X.env = (false, eval e X.env) :: starEach [] X.env := by rfl) (hpl : (backTo pos (starEach [] X.env)).any (·.1) = false := by rfl) :
    PD X (.Call (.Name "list" p) [e] [] pos) (td1V (fun d δ Q => match seqOf d with | some xs => xs.length ≤ sizeLine ∧ Q (.ol xs) δ | none => False) va) :=
  pd_1V (fun d δ Q Q' q w => by split at q <;> first | exact ⟨q.1, w _ _ q.2⟩ | exact q)
    (fun B H0 G0 H σ δ G v d Q R hd q => by
      split at q
      · rename_i xs e1
        obtain ⟨a, ws, rfl, hq, hA⟩ := hd.seq R e1
        have z := q.1
        rw [← hA.len] at z
        exact ⟨a, ws, rfl, hq, fun l hl => aft_own (s := .ol xs) R hl z rfl ⟨_, upd_same, hA⟩ q.2⟩
      · exact q.elim) h (pe_callTy call_list_of hg hm boot_list' (pa_cons h.pe pa_nil he) (by decide) (by decide) he hpl)
theorem pd_tupleV (hg : Gl X "tuple") (hm : X.mg "tuple" = none) (h : PDV X e va) (he : starEach [e] X.env = (false, eval e X.env) :: starEach [] X.env := by rfl) (hpl : (backTo pos (starEach [] X.env)).any (·.1) = false := by rfl) :
    PD X (.Call (.Name "tuple" p) [e] [] pos) (td1V (fun d δ Q => match seqOf d with | some xs => Q (.dt (.tup xs)) δ | none => False) va) :=
  pd_1V (fun d δ Q Q' q w => by split at q <;> first | exact w _ _ q | exact q)
    (fun B H0 G0 H σ δ G v d Q R hd q => by
      split at q
      · rename_i xs e1
        cases d <;> first | cases e1 | skip
        · obtain ⟨a, vs, rfl, nb, h1, h2⟩ := hd
          refine ⟨a, vs, rfl, .inl ⟨SqL.of h1, fun l hl => ?_⟩⟩
          have gl := R.sub.free hl
          have sG : Same G (upd G l (.tup vs)) := fun b x e => by rw [upd_ne (ne_of_none e gl)]; exact e
          exact aft_laid R hl (show vs.length ≤ sizeLine from R.sz _ _ h1) (.tup (.inl upd_same) (DdA.mono sG _ _ h2)) q
        · cases hd with
          | tup h1 h2 => exact ⟨_, _, rfl, .inr ⟨sameT R.sub h1, aft_here R (.tup h1 h2) q⟩⟩
      · exact q.elim) h (pe_callTy call_tuple_of hg hm boot_tuple' (pa_cons h.pe pa_nil he) (by decide) (by decide) he hpl)
end
def tdSlV (ta : TDV) (tl th : TDO) : TD := fun δ Q => ta δ fun d δ1 => tl δ1 fun l δ2 => th δ2 fun h δ3 => fSl d l h δ3 Q
section
variable {X : Cx} {e : Expr} {lo hi : Option Expr} {pos p2 : Pos} {va : TDV} {tl th : TDO}
theorem pd_sliceV (ha : PDV X e va) (hl : PDO X lo tl) (hh : PDO X hi th) : PD X (.Subscript e (.Slice lo hi none p2) pos) (tdSlV va tl th) := by
  have rule := pe_slice (pos := pos) (p2 := p2) (sl_list.or (sl_tupA.or sl_str)) ha.pe hl.po hh.po
  refine ⟨PE.weak rule fun σ H Q ⟨B, H0, G0, δ, G, R, q⟩ => ⟨B, H0, G0, δ, G, R, ha.mono _ _ _ q fun d δ1 q1 v H1 G1 R1 s1 f1 t1 => ⟨B, H0, G0, δ1, G1, R1, hl.mono _ _ _ q1 fun l δ2 h2 H2 G2 R2 s2 f2 => ⟨B, H0, G0, δ2, G2, R2, hh.mono _ _ _ h2 fun u δ3 h3 H3 G3 R3 s3 f3 => ?_⟩⟩⟩, fun δ Q Q' q w => ha.mono _ _ _ q fun d δ1 q => hl.mono _ _ _ q fun l δ2 q => hh.mono _ _ _ q fun h δ3 q => mono_fSl q w⟩
  have hd3 := t1.step (s2.trans s3) (f2.trans f3)
  have h3 := mono_fSl h3 (aft_step ((s1.trans s2).trans s3) ((f1.trans f2).trans f3))
  unfold fSl at h3
  split at h3
  · obtain ⟨a, vs, rfl, nb, g1, g2⟩ := hd3
    refine .inl ⟨a, vs, rfl, SqL.of g1, fun p hp => ?_⟩
    exact aft_own (s := .ol _) R3 hp (Nat.le_trans (cutV_length _ _ _) (R3.sz _ _ g1)) rfl ⟨_, upd_same, cut_ok g2 l u⟩ h3
  · cases hd3 with
    | @tup a vs ds g1 g2 =>
      refine .inr (.inl ⟨a, vs, rfl, sameT R3.sub g1, fun z => ?_, fun z p hp => ?_⟩)
      · rw [g2.len] at z
        rw [cutL_all z.1 z.2] at h3
        exact aft_here R3 (.tup g1 g2) h3
      · have gp := R3.sub.free hp
        have sG : Same G3 (upd G3 p (.tup (cutV vs l u))) := fun b x e => by rw [upd_ne (ne_of_none e gp)]; exact e
        refine aft_laid R3 hp ?_ (.tup (.inl upd_same) (DdA.mono sG _ _ (cut_ok g2 l u))) h3
        refine Nat.le_trans (cutV_length _ _ _) ?_
        rcases sameT R3.sub g1 with (g | ⟨o, g⟩) | ⟨o, its, n, _, _, _, hz, r⟩
        · exact R3.sz _ _ g
        · exact R3.sz _ _ g
        · rw [r.length, Array.length_toList]; exact hz
  · cases hd3
    exact .inr (.inr ⟨_, rfl, h3.1, aft_here R3 (.str _) h3.2⟩)
  · exact h3.elim
end
section
variable {K : PySem.W.Frag} {B : Bg K} {H0 G0 H G : Hp} {σ : L2.St} {δ : List Sl}
theorem Rel.write (R : Rel K B H0 G0 H σ δ G) {i : Nat} {a : Addr} {s' : Sl} {o : HO} (oa : Own σ δ i a) (so : SzO o) (io : s'.isOwn = true) (h : OwnAt K (upd H a o) G a s') : Rel K B H0 G0 (upd H a o) σ (δ.set i s') G := by
  obtain ⟨h0, ga, nb⟩ := R.own i a oa
  obtain ⟨ei, s, es, _⟩ := oa
  have hil : i < δ.length := (List.getElem?_eq_some_iff.mp es).1
  have oa : Own σ δ i a := ⟨ei, s, es, ‹_›⟩
  have back : ∀ j b, Own σ (δ.set i s') j b → Own σ δ j b := fun j b ⟨e, t, e2, it⟩ => by
    rcases getSet e2 with ⟨h1, h2, h3⟩ | ⟨h1, h2⟩ | ⟨_, _, h⟩
    · subst h1
      rw [ei] at e; cases e
      exact oa
    · exact ⟨e, t, h2, it⟩
    · exact h.elim
  have keep : ∀ b x, b ≠ a → H b = some x → upd H a o b = some x := fun b x n e => by rw [upd_ne n]; exact e
  refine ⟨fun b x e => keep b x (fun z => by rw [z, ga] at e; cases e) (R.sub _ _ e), R.g0, fun b x e n => keep b x (fun z => by rw [z, h0] at e; cases e) (R.ent b x e n), by rw [List.length_set]; exact R.len, fun j t e => ?_, fun j k b h1 h2 => R.sep j k b (back j b h1) (back k b h2), fun j b hb => R.own j b (back j b hb), fun b c e => ?_, R.gn, R.sz.upd so, R.hd.setD i (by cases s' <;> first | rfl | (cases io; done))⟩
  · rcases getSet e with ⟨h1, h2, h3⟩ | ⟨h1, h2⟩ | ⟨_, _, h⟩
    · subst h1; subst h3
      refine .inr ⟨.ref a, ei, ?_⟩
      cases t <;> first | exact ⟨a, rfl, ga, h⟩ | cases io
    · rcases R.sl j t h2 with z | ⟨v, ev, ok⟩
      · exact .inl z
      · refine .inr ⟨v, ev, ?_⟩
        have ne : t.isOwn = true → ∀ b, v = .ref b → b ≠ a := fun it b eb z => h1 (R.sep i j a oa ⟨by rw [ev, eb, z], t, h2, it⟩)
        cases t with
        | no => trivial
        | hd _ _ _ _ => exact ok.elim
        | dt d => exact ok
        | bag => exact ok
        | cnt => exact ok
        | xcp _ _ _ _ _ => first | exact ok | exact xcp_mono (by assumption) ok | exact xcp_mono k.gg ok
        | fn _ _ _ _ _ => first | exact ok | exact fn_mono (by assumption) ok | exact fn_mono k.gg ok
        | tb _ _ => exact ok
        | ol ds => obtain ⟨b, eb, gb, hb⟩ := ok; exact ⟨b, eb, gb, hb.up (fun o' q => keep b o' (ne rfl b eb) q) (Same.refl _)⟩
        | oK ks ds => obtain ⟨b, eb, gb, hb⟩ := ok; exact ⟨b, eb, gb, hb.up (fun o' q => keep b o' (ne rfl b eb) q) (Same.refl _)⟩
        | oT ks ds => obtain ⟨b, eb, gb, hb⟩ := ok; exact ⟨b, eb, gb, hb.up (fun o' q => keep b o' (ne rfl b eb) q) (Same.refl _)⟩
        | oI x0 C ks ds => obtain ⟨b, eb, gb, hb⟩ := ok; exact ⟨b, eb, gb, hb.up (fun o' q => keep b o' (ne rfl b eb) q) (Same.refl _)⟩
        | oL x0 ds => obtain ⟨b, eb, gb, hb⟩ := ok; exact ⟨b, eb, gb, hb.up (fun o' q => keep b o' (ne rfl b eb) q) (Same.refl _)⟩
    · exact h.elim
  · have nba : b ≠ a := fun z => nb c (z ▸ e)
    exact (R.bag b c e).up (upd_ne nba) (Same.refl _) (R.bag b c e).gn
end
def putK (i : Nat) (ti : TD) (nx : List Sl → Prop) (d : D) (δ1 : List Sl) : Prop := match δ1[i]? with
  | some (.ol _) => ti δ1 fun r2 δ2 => match r2, δ2[i]? with
    | .dt (.int k), some (.ol ds) => ∃ j, ixN ds.length k = some j ∧ nx (δ2.set i (.ol (ds.set j d)))
    | _, _ => False
  | _ => False
def tdApp (i : Nat) (te : TD) : TDS := fun D δ => match δ[i]? with
  | some (.ol _) => te δ fun r δ1 => match fz r, δ1[i]? with
    | some d, some (.ol ds) => ds.length < sizeLine ∧ D.nx (δ1.set i (.ol (ds ++ [d])))
    | _, _ => False
  | _ => False
section
variable {K : PySem.W.Frag} {B : Bg K} {H0 G0 H G : Hp} {σ : L2.St} {δ : List Sl}
theorem Rel.ol (R : Rel K B H0 G0 H σ δ G) {i : Nat} {ds : List D} (e : δ[i]? = some (.ol ds)) : ∃ a xs, σ[i]? = some (some (.ref a)) ∧ Own σ δ i a ∧ H a = some (.lst xs) ∧ DdA K G xs ds := by
  rcases R.sl i _ e with z | ⟨v, ev, a, rfl, ga, xs, h1, h2⟩
  · cases z
  · exact ⟨a, xs, ev, ⟨ev, _, e, rfl⟩, h1, h2⟩
end
def tStar (K : PySem.W.Frag) (te : TE) (tr : TA) : TA := fun σ H Q => te σ H fun x H1 => ∃ a ys, x = .ref a ∧ (SqL K H1 a ys ∨ SqT K H1 a ys) ∧ tr σ H1 fun xs H2 => Q (ys ++ xs) H2
theorem pa_star {X : Cx} {e : Expr} {es : List Expr} {te : TE} {t : TA} {p : Pos} (he : PE X e te) (hr : PA X es t) (hs : starEach (.Starred e p :: es) X.env = (true, eval e X.env) :: starEach es X.env := by rfl) : PA X (.Starred e p :: es) (tStar X.K te t) := by
  refine ⟨fun pos pins s σ H Q I h => ?_⟩
  refine PySem.W.items_star (thn (he.run pins s σ H _ I h) fun v s1 ⟨x, H1, I1, r1, a, ys, ex, sq, q1⟩ => ?_) hs
  subst ex
  cases r1
  have fin : ∀ (its : List Value), Vals ys its → ∀ h', (∀ b o', s1.heap.get? b = some o' → h'.get? b = some o') →
      wpAny (model X.prog X.w) X.A (spliced (backTo pos (starEach es X.env))) (fun vs s₃ => AP X pins σ Q (its ++ vs) s₃) X.xe { s1 with heap := h' } := fun its rv h' hk =>
    thn (hr.run pos pins _ σ H1 _ (I1.kept (t' := s1.toks) hk) q1) fun us s2 ⟨xs, H2, I2, r2, q2⟩ => ⟨ys ++ xs, H2, I2, rv.append r2, q2⟩
  rcases sq with sq | sq
  · obtain ⟨its, rv, ⟨o, n, ho, hc, _, hd⟩, hz⟩ := I1.list sq
    unfold PySem.W.StarOf notIterableAtAll
    refine wpAny_bind (wpAny_specialOf ⟨o, ho, hc⟩ PySem.F.slot_list_iter.lookup (wpAny_pure ⟨rfl, ?_⟩))
    exact wpAny_collect_seq a (.inl rfl) ho hc hd (fun h' hk => by simpa using fin its rv h' hk) (by rw [List.size_toArray, ← rv.length]; exact hz)
  · obtain ⟨its, rv, ⟨o, ho, hc, n, hd⟩, hz⟩ := I1.tuple sq
    unfold PySem.W.StarOf notIterableAtAll
    refine wpAny_bind (wpAny_specialOf ⟨o, ho, hc⟩ PySem.F.slot_tuple_iter.lookup (wpAny_pure ⟨rfl, ?_⟩))
    exact wpAny_collect_seq a (.inr rfl) ho hc hd (fun h' hk => by simpa using fin its rv h' hk) (by rw [List.size_toArray, ← rv.length]; exact hz)
def tdStar (tv : TDV) (tr : TDA) : TDA := fun δ Q => tv δ fun d δ1 => match seqOf d with
  | none => False
  | some ys => tr δ1 fun rs δ2 => Q (ys.map .dt ++ rs) δ2
theorem argsOk_dts {K : PySem.W.Frag} {B : Bg K} {G : Hp} : ∀ {vs : List V} {ds : List D} {ws : List V} {rs : List Sl}, DdA K G vs ds → ArgsOk K B G ws rs → ArgsOk K B G (vs ++ ws) (ds.map .dt ++ rs)
  | _, [], _, _, h, k => by cases h; exact k
  | _, d :: ds, _, _, h, k => by cases h with | cons h1 h2 => exact ⟨h1, argsOk_dts h2 k⟩
theorem pda_star {X : Cx} {e : Expr} {es : List Expr} {tv : TDV} {u : TDA} {p : Pos} (h : PDV X e tv) (k : PDA X es u) (hs : starEach (.Starred e p :: es) X.env = (true, eval e X.env) :: starEach es X.env := by rfl) : PDA X (.Starred e p :: es) (tdStar tv u) := by
  refine ⟨PA.weak (pa_star h.pe k.pa hs) fun σ H Q ⟨B, H0, G0, δ, G, R, q⟩ => ⟨B, H0, G0, δ, G, R, h.mono _ _ _ q fun d δ1 q v H1 G1 R1 s1 f1 t1 => ?_⟩, fun δ Q Q' q w => h.mono _ _ _ q fun d δ1 q => ?_⟩
  · cases e1 : seqOf d with
    | none => rw [e1] at q; exact q.elim
    | some ys =>
      rw [e1] at q
      obtain ⟨a, vs, rfl, sq, hA⟩ := t1.seq R1 e1
      exact ⟨a, vs, rfl, sq, B, H0, G0, δ1, G1, R1, k.mono _ _ _ q fun rs δ2 q2 ws H2 G2 R2 s2 f2 oks => q2 _ H2 G2 R2 (s1.trans s2) (f1.trans f2) (argsOk_dts (DdA.mono s2 _ _ hA) oks)⟩
  · cases e1 : seqOf d with
    | none => rw [e1] at q; exact q
    | some ys => rw [e1] at q; exact k.mono _ _ _ q fun rs δ2 q2 => w _ _ q2
section
variable {X : Cx} {o e : Expr} {pos p1 p2 : Pos} {te : TD} {i : Nat}
theorem pds_app (ho : PE X o (tVar i)) (he : PD X e te) (hbase : attributeBase o "append" X.env (eval o X.env) = eval o X.env := by rfl)
    (hfew : ((backTo p2 (starEach [e] X.env)).all (fun x => !x.1) && (backToKw p2 (keywordEach [] X.env)).all (fun x => x.1.isSome)
      && decide ([e].length + ([] : List Keyword).length + (if ([] : List Keyword).isEmpty then 0 else 1) < 30)) = true := by rfl)
    (hline : (p1.endLine == p2.line) = true := by rfl) (hst : starEach [e] X.env = (false, eval e X.env) :: starEach [] X.env := by rfl) (hplain : (backTo p2 (starEach [] X.env)).any (·.1) = false := by rfl)
    (hs : swapsWith (.Call (.Attribute o "append" p1) [e] [] p2) none pos.line X.env = pure false := by rfl) : PDS X (.Expr (.Call (.Attribute o "append" p1) [e] [] p2) pos) (tdApp i te) := by
  refine ⟨PS.weak (ps_expr (pe_bm PySem.F.plainAttrs_list PySem.F.slot_list_append PySem.F.type_list_append mt_append ho (pa_cons he.pe pa_nil hst) hbase hfew hline hst hplain) hs) fun D σ H ⟨B, H0, G0, δ, G, R, q⟩ => ?_, fun D D' δ w q => ?_⟩
  · unfold tdApp at q
    split at q
    · rename_i ds0 e1
      obtain ⟨a, xs, ev, oa, ha, hA⟩ := R.ol e1
      refine ⟨_, ev, .inl ⟨rfl, _, SqL.of ha⟩, B, H0, G0, δ, G, R, he.mono _ _ _ q fun r δ1 q2 y H2 G2 R2 s2 f2 ok => ?_⟩
      split at q2
      · rename_i d ds er e2
        obtain ⟨a2, xs2, ev2, oa2, ha2, hA2⟩ := R2.ol e2
        rw [ev] at ev2; cases ev2
        obtain ⟨G3, R3, s3, hd⟩ := freeze R2 ok er
        obtain ⟨hz, qn⟩ := q2
        rw [← hA2.len] at hz
        refine ⟨a, xs2, y, rfl, rfl, ha2, hz, ?_⟩
        refine qn σ _ G3 (R3.write oa2 (show (xs2 ++ [y]).length ≤ sizeLine by rw [List.length_append]; exact hz) rfl ⟨_, upd_same, ?_⟩)
        exact (DdA.mono s3 _ _ hA2).append (.one hd)
      · exact q2.elim
    · exact q.elim
  · unfold tdApp at q ⊢
    split at q
    · refine he.mono _ _ _ q fun r δ1 q2 => ?_
      split at q2
      · exact ⟨q2.1, w.nx _ q2.2⟩
      · exact q2
    · exact q
end
end DL
set_option Elab.async false
set_option linter.all false
set_option maxRecDepth 100000
set_option maxHeartbeats 4000000
namespace DL
open PySem PySem.Spec PyProof.Rows L2
structure Bs (c h : Nat) (d : D) : Prop where
  plain : plainD d = true
  small : smallD d
  cost : costD d ≤ c
  depth : (py d).depth ≤ h
  dict : (py d).hasDict = false
  nol : noL d = true
  lay : (py d).canLay0 = true
structure Gd (c h : Nat) (d : D) : Prop where
  plain : plainD d = true
  small : smallD d
  cost : costD d ≤ c
  depth : (py d).depth ≤ h
  dl : (py d).hasDict = false ∨ noL d = true
section
variable {c h c' h' : Nat} {d : D} {xs : List D}
theorem Bs.gd (b : Bs c h d) : Gd c h d := ⟨b.plain, b.small, b.cost, b.depth, .inl b.dict⟩
theorem Bs.mono (b : Bs c h d) (h1 : c ≤ c') (h2 : h ≤ h') : Bs c' h' d := ⟨b.plain, b.small, Nat.le_trans b.cost h1, Nat.le_trans b.depth h2, b.dict, b.nol, b.lay⟩
theorem Gd.mono (b : Gd c h d) (h1 : c ≤ c') (h2 : h ≤ h') : Gd c' h' d := ⟨b.plain, b.small, Nat.le_trans b.cost h1, Nat.le_trans b.depth h2, b.dl⟩
theorem Gd.show (b : Gd c h d) (h1 : c ≤ sizeLine) (h2 : h ≤ 100) : ShowOk d := showOk_of b.plain b.small (Nat.le_trans b.cost h1) (Nat.le_trans b.depth h2) b.dl
theorem Bs.show (b : Bs c h d) (h1 : c ≤ sizeLine) (h2 : h ≤ 100) : ShowOk d := b.gd.show h1 h2
theorem Bs.shaped (b : Bs c h d) (h2 : h ≤ 64) : SeqAt.shaped (py d) = true := by
  unfold SeqAt.shaped
  rw [b.lay, decide_eq_true (Nat.le_trans b.depth h2)]; rfl
theorem bs_int {i : Int} (hi : i.natAbs < 10 ^ 78) : Bs 80 0 (.int i) := ⟨rfl, hi, Nat.le_refl _, Nat.le_refl _, rfl, rfl, rfl⟩
theorem bs_all : ∀ {xs : List D}, (∀ x ∈ xs, Bs c h x) → plainA xs = true ∧ smallA xs ∧ costA xs ≤ (c + 2) * xs.length ∧ PyData.depthAll (pyA xs) ≤ h ∧ PyData.hasDictAll (pyA xs) = false ∧ noLA xs = true ∧ PyData.canLayAll0 (pyA xs) = true
  | [], _ => ⟨rfl, trivial, Nat.le_refl _, Nat.zero_le _, rfl, rfl, rfl⟩
  | x :: xs, hx => by
    obtain ⟨a1, a2, a3, a4, a5, a6, a7⟩ := hx x List.mem_cons_self
    obtain ⟨b1, b2, b3, b4, b5, b6, b7⟩ := bs_all fun y hy => hx y (List.mem_cons_of_mem _ hy)
    refine ⟨?_, ⟨a2, b2⟩, ?_, ?_, ?_, ?_, ?_⟩
    · show (plainD x && plainA xs) = true; rw [a1, b1]; rfl
    · show costD x + 2 + costA xs ≤ (c + 2) * (xs.length + 1)
      rw [Nat.mul_succ]; omega
    · show max (py x).depth (PyData.depthAll (pyA xs)) ≤ h; omega
    · show ((py x).hasDict || PyData.hasDictAll (pyA xs)) = false; rw [a5, b5]; rfl
    · show (noL x && noLA xs) = true; rw [a6, b6]; rfl
    · show ((py x).canLay0 && PyData.canLayAll0 (pyA xs)) = true; rw [a7, b7]; rfl
theorem bs_tup (hx : ∀ x ∈ xs, Bs c h x) : Bs ((c + 2) * xs.length + 3) (h + 1) (.tup xs) := by
  obtain ⟨b1, b2, b3, b4, b5, b6, b7⟩ := bs_all hx
  exact ⟨b1, b2, Nat.add_le_add_right b3 3, (Nat.add_le_add_right b4 1 : PyData.depthAll (pyA xs) + 1 ≤ h + 1), b5, b6, b7⟩
theorem lay_lst (hx : ∀ x ∈ xs, Bs c h x) (hh : h + 1 ≤ 64) : SeqAt.shaped (py (.lst xs)) = true := by
  obtain ⟨b1, b2, b3, b4, b5, b6, b7⟩ := bs_all hx
  unfold SeqAt.shaped
  show (PyData.canLayAll0 (pyA xs) && decide (PyData.depthAll (pyA xs) + 1 ≤ 64)) = true
  rw [b7, decide_eq_true (by omega)]; rfl
end
def bsB (c h : Nat) (d : D) : Bool := plainD d && (smallB d && (decide (costD d ≤ c) && (decide ((py d).depth ≤ h) && (!(py d).hasDict && (noL d && (py d).canLay0)))))
theorem bsB_ok {c h : Nat} {d : D} (e : bsB c h d = true) : Bs c h d := by
  unfold bsB at e
  simp only [Bool.and_eq_true, Bool.not_eq_true', decide_eq_true_eq] at e
  obtain ⟨h1, h2, h3, h4, h5, h6, h7⟩ := e
  exact ⟨h1, smallB_ok d h2, h3, h4, h5, h6, h7⟩
theorem fLe_no {n m : Int} {δ : List Sl} {Q : QD} (h : ¬ n ≤ m) (q : Q (.dt (.bl false)) δ) : fLe (.int n) (.int m) δ Q := by
  show Q (.dt (.bl (decide (n ≤ m)))) δ
  rw [decide_eq_false h]; exact q
theorem if_yes {a : Bool} {A B : Prop} (e : a = true) (h : A) : if a = true then A else B := by rw [if_pos e]; exact h
theorem if_no {a : Bool} {A B : Prop} (e : a = false) (h : B) : if a = true then A else B := by rw [if_neg (by rw [e]; exact Bool.false_ne_true)]; exact h
theorem or_in {a b : Bool} {Q : Bool → Prop} {R : Prop} (q : Q (a || b)) (h : Q b → R) : if a = true then Q true else R := by
  cases a with
  | true => exact q
  | false => exact h q
theorem and_in {a b : Bool} {Q : Bool → Prop} {R : Prop} (q : Q (a && b)) (h : Q b → R) : if a = true then R else Q false := by
  cases a with
  | true => exact h q
  | false => exact q
abbrev qb (Q : Sl → Prop) : Bool → Prop := fun b => Q (.dt (.bl b))
theorem if_both {a : Bool} {A B : Prop} (h1 : a = true → A) (h2 : a = false → B) : if a = true then A else B := by
  cases a with
  | true => exact h1 rfl
  | false => exact h2 rfl
theorem plain_ins {d : D} (h : plainD d = true) : d.isIns = false := by cases d <;> first | rfl | cases h
theorem plain_cons {x : D} {xs : List D} (h : plainA (x :: xs) = true) : plainD x = true ∧ plainA xs = true := by
  have h' : (plainD x && plainA xs) = true := h
  rw [Bool.and_eq_true] at h'
  exact h'
def tdPar2 (i j : Nat) (ta tb : TD) : TDS := fun D δ => ta δ fun r δ1 => match az r with
  | none => False
  | some r' => tb δ1 fun s δ2 => D.nx ((δ2.set i r').set j s)
theorem az_own {r r' : Sl} (h : az r = some r') : r'.isOwn = false := by
  cases r <;> cases h <;> rfl
section
variable {X : Cx} {a b : Expr} {pos : Pos} {ta tb : TD}
theorem pds_par2 {i j : Nat} {x y : Str} {px py pt : Pos} {kt k2 pt2} (hc : X.calm = true) (hN : X.N.Nodup) (hi : X.N[i]? = some x) (hj : X.N[j]? = some y) (hij : i ≠ j)
    (hx : X.env.scope.names.lookup x = some .local) (hy : X.env.scope.names.lookup y = some .local) (ha : PD X a ta) (hb : PD X b tb)
    (hw : swappedStores [.Tuple [.Name x px, .Name y py] kt pt] (.Tuple [a, b] k2 pt2) X.env = pure (some [x, y]))
    (hs : swapsWithSole [.Tuple [.Name x px, .Name y py] kt pt] (.Tuple [a, b] k2 pt2) pos.line X.env = pure false := by rfl)
    (h1 : starEach [a, b] X.env = (false, eval a X.env) :: starEach [b] X.env := by rfl) (h2 : starEach [b] X.env = (false, eval b X.env) :: starEach [] X.env := by rfl) :
    PDS X (.Assign [.Tuple [.Name x px, .Name y py] kt pt] (.Tuple [a, b] k2 pt2) pos) (tdPar2 i j ta tb) := by
  refine ⟨PS.weak (ps_par hc hN hi hj hij hx hy (pa_cons ha.pe (pa_cons hb.pe pa_nil h2) h1) hw hs) fun D σ H ⟨B, H0, G0, δ, G, R, q⟩ => ⟨B, H0, G0, δ, G, R, ha.mono _ _ _ q fun r δ1 q v H1 G1 R1 s1 f1 ok => ?_⟩, fun D D' δ w q => ha.mono _ _ _ q fun r δ1 q => ?_⟩
  · cases ea : az r with
    | none => rw [ea] at q; exact q.elim
    | some r' =>
      rw [ea] at q
      obtain ⟨G2, R2, s2, hA⟩ := freezeA R1 ok ea
      refine ⟨B, H0, G0, δ1, G2, R2, hb.mono _ _ _ q fun s δ2 q w H3 G3 R3 s3 f3 ok3 => ⟨v, w, rfl, q _ _ G3 ?_⟩⟩
      refine (R3.assign (resOk_arg (hA.mono s3)) i).assign ⟨ok3.1, ok3.2.1, fun io a e => ?_⟩ j
      obtain ⟨z1, z2, z3⟩ := ok3.2.2 io a e
      refine ⟨z1, z2, fun k ⟨e1, t, e2, it⟩ => ?_⟩
      rcases getSet e2 with ⟨y1, y2, y3⟩ | ⟨y1, y2⟩ | ⟨_, _, y⟩
      · rw [y3, az_own ea] at it; cases it
      · rw [List.getElem?_set_ne y1] at e1
        exact z3 k ⟨e1, t, y2, it⟩
      · exact y.elim
  · cases ea : az r with
    | none => rw [ea] at q; exact q
    | some r' => rw [ea] at q; exact hb.mono _ _ _ q fun s δ2 q => w.nx _ q
end
def tdUnp (te : TD) (g : TDG) : TDS := fun D δ => te δ fun r δ1 => match fz r with
  | some d => g d δ1 D.nx
  | none => False
theorem pds_unpack {X : Cx} {tg e : Expr} {pos : Pos} {te : TD} {vs : List Nat} {g : TDG} (he : PD X e te) (hg : PDG X tg vs g) (hs : swapsWithSole [tg] e pos.line X.env = pure false := by rfl) (hw : swappedStores [tg] e X.env = pure none := by rfl)
    (h1 : (assignEach [tg] X.env).map (·.2) = [assign tg X.env] := by rfl) : PDS X (.Assign [tg] e pos) (tdUnp te g) := by
  refine ⟨PS.weak (ps_asg he.pe hg.pg hs hw h1) fun D σ H ⟨B, H0, G0, δ, G, R, q⟩ => ?_, fun D D' δ w q => he.mono _ _ _ q fun r δ1 q => ?_⟩
  · refine ev_data he.mono (kk := fun d δ1 => g d δ1 (endsOf X B H0 G0 D).nx) R q fun d δ1 v H1 G1 R1 s1 f1 hd hq => ?_
    exact ⟨B, H0, G0, δ1, G1, d, R1, hd, hg.mono _ _ _ _ hq fun δ' q σ' _ R' => q σ' H1 G1 R'⟩
  · cases e1 : fz r with
    | none => rw [e1] at q; exact q
    | some d => rw [e1] at q; exact hg.mono _ _ _ _ q fun δ' q => w.nx _ q
end DL
set_option Elab.async false
set_option linter.all false
set_option maxRecDepth 100000
set_option maxHeartbeats 4000000
namespace DL
open PySem PySem.Spec PyProof.Rows L2
section
variable {K : PySem.W.Frag} {B : Bg K} {H0 G0 H G : Hp} {σ : L2.St} {δ : List Sl}
theorem Rel.count (R : Rel K B H0 G0 H σ δ G) {b : Addr} (hB : (b, Cell.cnt) ∈ B) (n : Int) : Rel K B H0 G0 (upd H b (.lst [.int n])) σ δ G := by
  obtain ⟨k, hb, gb⟩ := R.bag b _ hB
  have keep : ∀ a x, a ≠ b → H a = some x → upd H b (.lst [.int n]) a = some x := fun a x ne e => by rw [upd_ne ne]; exact e
  have neB : ∀ a, NotB B a → a ≠ b := fun a nb e => nb _ (e ▸ hB)
  refine ⟨fun a x e => keep a x (ne_of_none e gb) (R.sub _ _ e), R.g0, fun a x e nb => keep a x (neB a nb) (R.ent a x e nb), R.len, fun i s e => ?_, R.sep, R.own, fun a c e => ?_, R.gn, R.sz.upd (show (1 : Nat) ≤ sizeLine by decide), R.hd⟩
  · rcases R.sl i s e with z | ⟨v, ev, ok⟩
    · exact .inl z
    · refine .inr ⟨v, ev, ?_⟩
      cases s with
      | no => trivial
      | hd _ _ _ _ => exact ok.elim
      | dt d => exact ok
      | bag => exact ok
      | cnt => exact ok
      | xcp _ _ _ _ _ => first | exact ok | exact xcp_mono (by assumption) ok | exact xcp_mono k.gg ok
      | fn _ _ _ _ _ => first | exact ok | exact fn_mono (by assumption) ok | exact fn_mono k.gg ok
      | tb _ _ => exact ok
      | ol ds => obtain ⟨a, ea, ga, h⟩ := ok; exact ⟨a, ea, ga, h.up (fun o q => keep a o (neB a (R.own i a ⟨ea ▸ ev, _, e, rfl⟩).2.2) q) (Same.refl _)⟩
      | oK ks ds => obtain ⟨a, ea, ga, h⟩ := ok; exact ⟨a, ea, ga, h.up (fun o q => keep a o (neB a (R.own i a ⟨ea ▸ ev, _, e, rfl⟩).2.2) q) (Same.refl _)⟩
      | oT ks ds => obtain ⟨a, ea, ga, h⟩ := ok; exact ⟨a, ea, ga, h.up (fun o q => keep a o (neB a (R.own i a ⟨ea ▸ ev, _, e, rfl⟩).2.2) q) (Same.refl _)⟩
      | oI x0 C ks ds => obtain ⟨a, ea, ga, h⟩ := ok; exact ⟨a, ea, ga, h.up (fun o q => keep a o (neB a (R.own i a ⟨ea ▸ ev, _, e, rfl⟩).2.2) q) (Same.refl _)⟩
      | oL x0 ds => obtain ⟨a, ea, ga, h⟩ := ok; exact ⟨a, ea, ga, h.up (fun o q => keep a o (neB a (R.own i a ⟨ea ▸ ev, _, e, rfl⟩).2.2) q) (Same.refl _)⟩
  · by_cases ha : a = b
    · subst ha
      have z := R.bag _ c e
      cases c with
      | bag c => obtain ⟨_, _, _, _, y, _⟩ := z; rw [hb] at y; cases y
      | cnt => exact ⟨n, upd_same, gb⟩
      | tab q => obtain ⟨⟨_, y, _⟩, _⟩ := z; rw [hb] at y; cases y
    · exact (R.bag a c e).up (upd_ne ha) (Same.refl _) (R.bag a c e).gn
end
def tdCnt (i : Nat) : TD := fun δ Q => match δ[i]? with
  | some .cnt => ∀ n : Int, Q (.dt (.int n)) δ
  | _ => False
def tdCntS (i : Nat) : TDS := fun D δ => match δ[i]? with
  | some .cnt => D.nx δ
  | _ => False
section
variable {X : Cx} {o j e : Expr} {pos p1 : Pos} {i : Nat}
theorem pd_cnt (ho : PE X o (tVar i)) (hj : PE X j (tC (.int 0))) (hs : PlainIx j) : PD X (.Subscript o j pos) (tdCnt i) := by
  refine ⟨PE.weak (pe_ix ix_list ho hj hs) fun σ H Q ⟨B, H0, G0, δ, G, R, q⟩ => ?_, fun δ Q Q' q w => ?_⟩
  · unfold tdCnt at q
    split at q
    · rename_i e1
      rcases R.sl i _ e1 with z | ⟨v, ev, b, hB, rfl⟩
      · cases z
      · obtain ⟨k, hb, gb⟩ := R.bag b _ hB
        exact ⟨_, ev, b, _, 0, .int k, rfl, rfl, SqL.of hb, rfl, q k (.int k) H G R (Same.refl _) (Fra.refl _ _) (resOk_dt (.int k))⟩
    · exact q.elim
  · unfold tdCnt at q ⊢
    split at q
    · exact fun n => w _ _ (q n)
    · exact q
theorem pds_cnt (ho : PE X o (tVar i)) (hj : PE X j (tC (.int 0))) (he : PE X e (tC (.int 1))) (ha : ∀ ov iv new, augStore j ov iv new = (do holding [new, ov, iv] (setItem ov iv new); release [new, ov, iv] []; pure .next) := by intros; rfl) :
    PDS X (.AugAssign (.Subscript o j p1) .Sub e pos) (tdCntS i) := by
  refine ⟨PS.weak (ps_augS ho hj get_list he ip_sub set_list ha) fun D σ H ⟨B, H0, G0, δ, G, R, q⟩ => ?_, fun D D' δ w q => ?_⟩
  · unfold tdCntS at q
    split at q
    · rename_i e1
      rcases R.sl i _ e1 with z | ⟨v, ev, b, hB, rfl⟩
      · cases z
      · obtain ⟨k, hb, gb⟩ := R.bag b _ hB
        exact ⟨_, ev, b, _, 0, .int k, rfl, rfl, hb, rfl, _, _, rfl, rfl, b, _, 0, 0, rfl, rfl, hb, rfl, q σ _ G (R.count hB _)⟩
    · exact q.elim
  · unfold tdCntS at q ⊢
    split at q
    · exact w.nx _ q
    · exact q
end
abbrev TDC := List Sl → (List Sl → Int → List Sl → Prop) → Prop
def MonoCn (t : TDC) : Prop := ∀ δ (Q Q' : List Sl → Int → List Sl → Prop), t δ Q → (∀ r n δ', Q r n δ' → Q' r n δ') → t δ Q'
def AftCn (K : PySem.W.Frag) (B : Bg K) (H0 G0 H : Hp) (σ : L2.St) (G : Hp) (Q : List V → Hp → Prop) : List Sl → Int → List Sl → Prop := fun rs n δ' => ∀ vs p H' G', Rel K B H0 G0 H' σ δ' G' → Same G G' → Fra B H H' → ArgsOk K B G' vs rs → H' p = none → Q (vs ++ [.ref p]) (upd H' p (.lst [.int n]))
def tyCn (K : PySem.W.Frag) (t : TDC) : TA := fun σ H Q => ∃ B H0 G0 δ G, Rel K B H0 G0 H σ δ G ∧ t δ (AftCn K B H0 G0 H σ G Q)
structure PDCn (X : Cx) (es : List Expr) (t : TDC) : Prop where
  pa : PA X es (tyCn X.K t)
  mono : MonoCn t
def tdLastC (t : TD) : TDC := fun δ Q => t δ fun r δ1 => match r with
  | .dt (.int n) => Q [] n δ1
  | _ => False
def tdConsC (ta : TD) (tr : TDC) : TDC := fun δ Q => ta δ fun r δ1 => match az r with
  | none => False
  | some r' => tr δ1 fun rs n δ2 => Q (r' :: rs) n δ2
section
variable {X : Cx} {e : Expr} {es : List Expr} {pos p : Pos} {ta : TD} {u : TDC} {k n : Nat} {t : TF} {x : Str}
theorem pdcn_last (h : PD X e ta) (h1 : starEach [e] X.env = (false, eval e X.env) :: starEach [] X.env := by rfl) (h2 : starEach [.List [e] pos] X.env = (false, eval (.List [e] pos) X.env) :: starEach [] X.env := by rfl) : PDCn X [.List [e] pos] (tdLastC ta) := by
  refine ⟨PA.weak (pa_cons (pe_lst (pa_cons h.pe pa_nil h1)) pa_nil h2) fun σ H Q ⟨B, H0, G0, δ, G, R, q⟩ => ⟨B, H0, G0, δ, G, R, h.mono _ _ _ q fun r δ1 q v H1 G1 R1 s1 f1 ok => ?_⟩, fun δ Q Q' q w => h.mono _ _ _ q fun r δ1 q => ?_⟩
  · split at q
    · cases ok.1
      exact ⟨(by decide : (1 : Nat) ≤ sizeLine), fun p hp => q [] p H1 G1 R1 s1 f1 trivial hp⟩
    · exact q.elim
  · split at q
    · exact w _ _ _ q
    · exact q
theorem pdcn_cons (h : PD X e ta) (k : PDCn X es u) (hs : starEach (e :: es) X.env = (false, eval e X.env) :: starEach es X.env := by rfl) : PDCn X (e :: es) (tdConsC ta u) := by
  refine ⟨PA.weak (pa_cons h.pe k.pa hs) fun σ H Q ⟨B, H0, G0, δ, G, R, q⟩ => ⟨B, H0, G0, δ, G, R, h.mono _ _ _ q fun r δ1 q v H1 G1 R1 s1 f1 ok => ?_⟩, fun δ Q Q' q w => h.mono _ _ _ q fun r δ1 q => ?_⟩
  · cases ea : az r with
    | none => rw [ea] at q; exact q.elim
    | some r' =>
      rw [ea] at q
      obtain ⟨G2, R2, s2, ha⟩ := freezeA R1 ok ea
      exact ⟨B, H0, G0, δ1, G2, R2, k.mono _ _ _ q fun rs n δ2 q vs p H3 G3 R3 s3 f3 oks hp => q (v :: vs) p H3 G3 R3 ((s1.trans s2).trans s3) (f1.trans f3) ⟨ha.mono s3, oks⟩ hp⟩
  · cases ea : az r with
    | none => rw [ea] at q; exact q
    | some r' => rw [ea] at q; exact k.mono _ _ _ q fun rs n δ2 q => w _ _ _ q
def tdCallC (t : TF) (u : TDC) : TD := fun δ Q => u δ fun rs _ δ' => t (rs ++ [.cnt]) (fun r => Q r δ')
theorem argsOk_snoc {K : PySem.W.Frag} {B B' : Bg K} {G : Hp} (sub : ∀ x, x ∈ B → x ∈ B') {w : V} {s : Sl} (hw : ArgOk K B' G w s) : ∀ {vs : List V} {rs : List Sl}, ArgsOk K B G vs rs → ArgsOk K B' G (vs ++ [w]) (rs ++ [s])
  | [], [], _ => ⟨hw, trivial⟩
  | v :: vs, r :: rs, h => by
    refine ⟨?_, argsOk_snoc sub hw h.2⟩
    have h1 := h.1
    cases r with
    | bag => obtain ⟨b, c, hb, e⟩ := h1; exact ⟨b, c, sub _ hb, e⟩
    | cnt => obtain ⟨b, hb, e⟩ := h1; exact ⟨b, sub _ hb, e⟩
    | xcp _ _ _ _ _ => exact h1.elim
    | fn _ _ _ _ _ => exact h1.elim
    | tb _ _ => exact h1.elim
    | dt d => exact h1
    | no => exact h1.elim
    | hd _ _ _ _ => exact h1.elim
    | ol _ => exact h1.elim
    | oK _ _ => exact h1.elim
    | oT _ _ => exact h1.elim
    | oI _ _ _ _ => exact h1.elim
    | oL _ _ => exact h1.elim
  | [], _ :: _, h => h.elim
  | _ :: _, [], h => h.elim
theorem Rel.callC {K : PySem.W.Frag} {B : Bg K} {H0 G0 H H' G G' : Hp} {σ : L2.St} {δ : List Sl} {q : Addr} {m : Int} (R : Rel K B H0 G0 H σ δ G) (hp : H q = none) {nB : NotB B q} {v : V} {r : Sl} (hr : r ≠ .cnt) (kk : RetOk K (B.cnt q nB) (upd H q (.lst [.int m])) G H' G' v r) :
    Rel K B H0 G0 H' σ δ G' ∧ Fra B H H' ∧ Same G G' ∧ ResOk K B H0 H' σ δ G' v r := by
  have gq : G q = none := R.sub.free hp
  have fr : Fra B H H' := fun a o e nb => kk.fra a o (by rw [upd_ne (ne_of_none e hp)]; exact e) fun c hc => by
    rcases Bg.cnt_in.mp hc with z | z
    · cases z; rw [hp] at e; cases e
    · exact nb c z
  have fresh : ∀ a, upd H q (.lst [.int m]) a = none → H a = none := fun a e => by
    by_cases ha : a = q
    · rw [ha]; exact hp
    · rw [upd_ne ha] at e; exact e
  have freshN : ∀ a, N0 (upd H q (.lst [.int m]) a) → N0 (H a) := fun a e => by
    by_cases ha : a = q
    · rw [ha]; exact .of hp
    · rw [upd_ne ha] at e; exact e
  have k2 : RetOk K B H G H' G' v r := by
    refine ⟨kk.gg, kk.gh, fun b c hb => kk.bag b c (Bg.cnt_in.mpr (.inr hb)), fr, kk.sz, fun a o e => (kk.gn a o e).imp id (freshN a), ?_, kk.no, fun io a e => fresh a (kk.own io a e)⟩
    have ok := kk.val
    cases r with
    | bag =>
      obtain ⟨b, c, hb, e⟩ := ok
      rcases Bg.cnt_in.mp hb with z | z
      · cases z
      · exact ⟨b, c, z, e⟩
    | cnt => exact absurd rfl hr
    | xcp _ _ _ _ _ => exact ok
    | fn _ _ _ _ _ => exact ok
    | tb P q0 => exact ⟨(Bg.cnt_in.mp ok.1).elim (fun z => by cases z) id, fun c hc => ok.2 c (Bg.cnt_in.mpr (.inr hc))⟩
    | no => exact ok
    | hd _ _ _ _ => exact ok
    | dt d => exact ok
    | ol _ => exact ok
    | oK _ _ => exact ok
    | oT _ _ => exact ok
    | oI _ _ _ _ => exact ok
    | oL _ _ => exact ok
  obtain ⟨R2, ok⟩ := R.call k2
  exact ⟨R2, fr, kk.gg, ok⟩
theorem pd_fnC (F : FnX X.prog X.w X.K X.mg X.base k x n t) (hnc : ∀ rs (Q : Sl → Prop), t rs Q → t rs fun r => r ≠ .cnt ∧ Q r) (hr : Room k X.A) (hg : Gl X x) (h : PDCn X (e :: es) u)
    (hdb : (x == ("__debug__" : Str)) = false := by decide) (he : starEach (e :: es) X.env = (false, eval e X.env) :: starEach es X.env := by rfl) (hpl : (backTo pos (starEach es X.env)).any (·.1) = false := by rfl) :
    PD X (.Call (.Name x p) (e :: es) [] pos) (tdCallC t u) := by
  obtain ⟨f, fd, ps, h1, h2, h3, h4⟩ := F.ex
  refine ⟨PE.weak (pe_call h1 hr hg h2 h3 h4 .nil pass0 h.pa hdb he hpl) fun σ H Q ⟨B, H0, G0, δ, G, R, q⟩ => ?_, fun δ Q Q' q w => h.mono _ _ _ q fun rs m δ' q => F.mono _ _ _ q fun r q => w _ _ q⟩
  refine ⟨B, H0, G0, δ, G, R, h.mono _ _ _ q fun rs m δ1 q vs a H1 G1 R1 s1 f1 oks ha => ?_⟩
  show spD X.K n t ((vs ++ [.ref a]) ++ []) _ Q E0
  rw [List.append_nil]
  have ga : G1 a = none := R1.sub.free ha
  have sH : Same H1 (upd H1 a (.lst [.int m])) := same_up ha
  have nB : NotB B a := (R1.newOwn ha).2.1
  refine ⟨by rw [List.length_append, oks.len, ← F.len _ _ q, List.length_append]; rfl, B.cnt a nB, G1, _, R1.sub.trans sH, fun b c hb => ?_, R1.sz.upd (show (1 : Nat) ≤ sizeLine by decide), argsOk_snoc (s := .cnt) (w := .ref a) (fun z hz => Bg.cnt_in.mpr (.inr hz)) ⟨a, Bg.cnt_in.mpr (.inl rfl), rfl⟩ oks, F.mono _ _ _ (hnc _ _ q) fun r q v H' G' kk => ?_⟩
  · rcases Bg.cnt_in.mp hb with z | z
    · cases z; exact ⟨m, upd_same, ga⟩
    · have nb : b ≠ a := fun e => (R1.newOwn ha).2.1 c (e ▸ z)
      exact (R1.bag b c z).up (upd_ne nb) (Same.refl _) (R1.bag b c z).gn
  · obtain ⟨R2, fr, sg, ok⟩ := R1.callC ha q.1 kk
    exact q.2 v H' G' R2 (s1.trans sg) (f1.trans fr) ok
end
end DL
set_option Elab.async false
set_option linter.all false
set_option maxRecDepth 100000
set_option maxHeartbeats 4000000
namespace DL
open PySem PySem.Spec PyProof.Rows L2
theorem hide_hide (δ : List Sl) : hideOwn (hideOwn δ) = hideOwn δ := by
  unfold hideOwn
  rw [List.map_map]
  congr 1
  funext s
  show (if (if s.hid = true then Sl.no else s).hid = true then Sl.no else (if s.hid = true then Sl.no else s)) = _
  cases s <;> rfl
section
variable {K : PySem.W.Frag} {B : Bg K} {H0 G0 H H' G G' : Hp} {σ σ2 : L2.St} {δ δ2 : List Sl}
theorem Rel.low (R : Rel K B H0 G0 H σ δ G) (R2 : Rel K B H G H' σ2 δ2 G') : Rel K B H0 G0 H' σ2 (hideOwn δ2) G' := by
  have RO := R.outer R2
  have RI := R2.inner
  have no : ∀ i a, ¬ Own σ2 (hideOwn δ2) i a := fun i a ⟨_, s, e, io⟩ => by rw [(hide_get e).1] at io; cases io
  exact ⟨R2.sub, RO.g0, RO.ent, RI.len, RI.sl, fun i j a h => (no i a h).elim, fun i a h => (no i a h).elim, R2.bag, RO.gn, R2.sz, HdSl.none fun i s e => hide_hd e⟩
end
def compD2 (g : TDG) (tt : TDT) (ti1 : TDI) (g1 : TDG) (tt1 : TDT) (te : TD) (δw : List Sl) (vs1 : List Nat) : List D → List D → (List D → Prop) → Prop
  | [], acc, Q => Q acc
  | d :: ds, acc, Q => g d δw fun δ1 => tt δ1 fun b δ2 => δ2 = δ1 ∧ (if b = true then ti1 δ1 fun ys δ3 => δ3 = δ1 ∧ acc.length + ys.length ≤ sizeLine ∧
      compD g1 tt1 te (wipeD (hideOwn δ1) vs1) ys acc (fun acc' => compD2 g tt ti1 g1 tt1 te δw vs1 ds acc' Q)
    else compD2 g tt ti1 g1 tt1 te δw vs1 ds acc Q)
def tdLc2 (ti : TDI) (g : TDG) (tt : TDT) (ti1 : TDI) (g1 : TDG) (tt1 : TDT) (te : TD) (vs vs1 : List Nat) : TD := fun δ Q => ti δ fun xs δ1 => compD2 g tt ti1 g1 tt1 te (wipeD (hideOwn δ1) vs) vs1 xs [] fun ys => Q (.ol ys) δ1
theorem compD2_mono {g g1 : TDG} {tt tt1 : TDT} {ti1 : TDI} {te : TD} (mg : MonoG g) (mt : MonoT tt) (mi : MonoI ti1) (mg1 : MonoG g1) (mt1 : MonoT tt1) (me : MonoD te) {δw : List Sl} {vs1 : List Nat} {Q Q' : List D → Prop} (w : ∀ ys, Q ys → Q' ys) : ∀ (ds acc : List D), compD2 g tt ti1 g1 tt1 te δw vs1 ds acc Q → compD2 g tt ti1 g1 tt1 te δw vs1 ds acc Q'
  | [], acc, h => w _ h
  | d :: ds, acc, h => mg _ _ _ _ h fun δ1 h1 => mt _ _ _ h1 fun b δ2 h2 => ⟨h2.1, by
      have h3 := h2.2
      cases b with
      | true =>
        rw [if_pos rfl] at h3 ⊢
        exact mi _ _ _ h3 fun ys δ3 h4 => ⟨h4.1, h4.2.1, compD_mono mg1 mt1 me (fun ys q => compD2_mono mg mt mi mg1 mt1 me w ds ys q) _ _ h4.2.2⟩
      | false =>
        rw [if_neg Bool.false_ne_true] at h3 ⊢
        exact compD2_mono mg mt mi mg1 mt1 me w ds acc h3⟩
section
variable {X : Cx} {elt tg iter tg1 iter1 : Expr} {ifs ifs1 : List Expr} {scope : Scope} {own : List (Str × Nat)} {pos : Pos} {ti ti1 : TDI} {g g1 : TDG} {tt tt1 : TDT} {te : TD} {vs vs1 : List Nat}
theorem tdLc2_run (hi : MonoI ti) (mg : MonoG g) (mt : MonoT tt) (mi1 : MonoI ti1) (mg1 : MonoG g1) (mt1 : MonoT tt1) (me : MonoD te) : ∀ σ H Q, tyE X.K (tdLc2 ti g tt ti1 g1 tt1 te vs vs1) σ H Q → tLc2 (tyI X.K ti) (tyG X.K vs g) (tyT X.K tt) (tyI X.K ti1) (tyG X.K vs1 g1) (tyT X.K tt1) (tyE X.K te) vs vs1 σ H Q := by
  intro σ H Q ⟨B, H0, G0, δ, G, R, q⟩
  refine ⟨B, H0, G0, δ, G, R, hi _ _ _ q fun xs δ1 q J H1 G1 R1 s1 f1 it => fun D hD => ?_⟩
  obtain ⟨d0, dB, dO⟩ := R1.newOwn hD
  have gD : G1 D = none := R1.sub.free hD
  refine ⟨fun i m H' => i + m = xs.length ∧ ∃ acc accD G', H' D = some (.lst acc) ∧ DdA X.K G' acc accD ∧ Rel X.K B H0 G1 H' σ δ1 G' ∧ G' D = none ∧ Fra B H1 H' ∧
    compD2 g tt ti1 g1 tt1 te (wipeD (hideOwn δ1) vs) vs1 (xs.drop i) accD (fun ys => Aft X.K B H0 G0 H σ G Q (.ol ys) δ1),
    ⟨xs.length, by omega, [], [], G1, upd_same, .nil, (R1.rebase).laidO hD (Nat.zero_le _), gD, Fra.upd hD, q⟩, fun i m H' hW => ?_⟩
  obtain ⟨em, acc, accD, G', eD, hA, R', gD', f', q'⟩ := hW
  by_cases hi' : i < xs.length
  · obtain ⟨each, _⟩ := it B H' G' H' σ (hideOwn δ1) G' R'.inner R'.g0
    obtain ⟨go, yld⟩ := each i xs[i] (List.getElem?_eq_getElem hi')
    rw [List.drop_eq_getElem_cons hi'] at q'
    refine .inr ⟨go, fun H2 => ∃ acc2 accD2 G2, H2 D = some (.lst acc2) ∧ DdA X.K G2 acc2 accD2 ∧ Rel X.K B H0 G1 H2 σ δ1 G2 ∧ G2 D = none ∧ Fra B H1 H2 ∧ compD2 g tt ti1 g1 tt1 te (wipeD (hideOwn δ1) vs) vs1 (xs.drop (i + 1)) accD2 (fun ys => Aft X.K B H0 G0 H σ G Q (.ol ys) δ1),
      fun H2 ⟨acc2, accD2, G2, h1, h2, h4, h5, h6, h7⟩ => ⟨m - 1, by omega, by omega, acc2, accD2, G2, h1, h2, h4, h5, h6, h7⟩, fun x H3 y => ?_⟩
    obtain ⟨G3, R3, s3, f3, hd⟩ := yld x H3 y
    have fin : ∀ {σ2 : L2.St} {δ2 : List Sl} {H4 G4 : Hp}, Rel X.K B H' G' H4 σ2 δ2 G4 → Rel X.K B H0 G1 H4 σ δ1 G4 ∧ H4 D = some (.lst acc) ∧ G4 D = none ∧ Fra B H1 H4 := fun {σ2 δ2 H4 G4} R4 =>
      ⟨R'.outer R4, R4.ent _ _ eD dB, by
        cases z : G4 D with
        | none => rfl
        | some o =>
          rcases R4.gn _ _ z with y | y
          · rw [gD'] at y; cases y
          · rw [eD] at y; (cases y), f'.trans fun a o e n => R4.ent a o e n⟩
    refine ⟨B, H', G', _, G3, xs[i], R3.wipes vs, hd, mg _ _ _ _ q' fun δ4 q4 σ4 ew R4 => ⟨ew.trans (wipe_wipe σ vs), ?_⟩⟩
    refine ⟨B, H', G', δ4, G3, R4, mt _ _ _ q4 fun b δ5 q5 H5 G5 R5 s5 f5 => ?_⟩
    obtain ⟨rfl, q5⟩ := q5
    cases b with
    | false =>
      obtain ⟨h1, h2, h3, h4⟩ := fin R5
      exact ⟨acc, accD, G5, h2, DdA.mono R5.g0 _ _ hA, h1, h3, h4, q5⟩
    | true =>
      refine ⟨B, H', G', δ5, G5, R5, mi1 _ _ _ q5 fun ys δ6 q6 J1 H6 G6 R6 s6 f6 it1 => ?_⟩
      obtain ⟨rfl, hz, q6⟩ := q6
      obtain ⟨h1, h2, h3, h4⟩ := fin R6
      refine ⟨fun j k Hc => j + k = ys.length ∧ ∃ acc2 accD2 G2, Hc D = some (.lst acc2) ∧ DdA X.K G2 acc2 accD2 ∧ acc2.length ≤ acc.length + j ∧ Rel X.K B H0 G1 Hc σ δ1 G2 ∧ Rel X.K B H0 G1 Hc σ4 (hideOwn δ6) G2 ∧ Same G6 G2 ∧ G2 D = none ∧ Fra B H1 Hc ∧
        compD g1 tt1 te (wipeD (hideOwn δ6) vs1) (ys.drop j) accD2 (fun acc' => compD2 g tt ti1 g1 tt1 te (wipeD (hideOwn δ1) vs) vs1 (xs.drop (i + 1)) acc' (fun ys => Aft X.K B H0 G0 H σ G Q (.ol ys) δ1)),
        ⟨ys.length, by omega, acc, accD, G6, h2, DdA.mono R6.g0 _ _ hA, Nat.le_refl _, h1, R'.low R6, Same.refl _, h3, h4, q6⟩, fun j k Hc hW1 => ?_⟩
      obtain ⟨ek, acc2, accD2, G2, e2, hA2, la2, Ro, Rl, sg2, gD2, fr2, q2⟩ := hW1
      have Rb : Rel X.K B Hc G2 Hc σ4 (hideOwn δ6) G2 := by have z := Rl.inner; rw [hide_hide] at z; exact z
      obtain ⟨each1, stop1⟩ := it1 B Hc G2 Hc σ4 (hideOwn δ6) G2 Rb sg2
      by_cases hj : j < ys.length
      · obtain ⟨go1, yld1⟩ := each1 j ys[j] (List.getElem?_eq_getElem hj)
        rw [List.drop_eq_getElem_cons hj] at q2
        refine .inr ⟨go1, fun H2 => ∃ acc3 accD3 G3, H2 D = some (.lst acc3) ∧ DdA X.K G3 acc3 accD3 ∧ acc3.length ≤ acc.length + (j + 1) ∧ Rel X.K B H0 G1 H2 σ δ1 G3 ∧ Rel X.K B H0 G1 H2 σ4 (hideOwn δ6) G3 ∧ Same G6 G3 ∧ G3 D = none ∧ Fra B H1 H2 ∧
          compD g1 tt1 te (wipeD (hideOwn δ6) vs1) (ys.drop (j + 1)) accD3 (fun acc' => compD2 g tt ti1 g1 tt1 te (wipeD (hideOwn δ1) vs) vs1 (xs.drop (i + 1)) acc' (fun ys => Aft X.K B H0 G0 H σ G Q (.ol ys) δ1)),
          fun H2 ⟨acc3, accD3, G3, w1, w2, w3, w4, w5, w6, w7, w8, w9⟩ => ⟨k - 1, by omega, by omega, acc3, accD3, G3, w1, w2, w3, w4, w5, w6, w7, w8, w9⟩, fun x1 H7 y1 => ?_⟩
        obtain ⟨G7, R7, s7, f7, hd7⟩ := yld1 x1 H7 y1
        have fin1 : ∀ {σ2 : L2.St} {δ2 : List Sl} {H8 G8 : Hp}, Rel X.K B Hc G2 H8 σ2 δ2 G8 → Rel X.K B H0 G1 H8 σ δ1 G8 ∧ Rel X.K B H0 G1 H8 σ4 (hideOwn δ6) G8 ∧ H8 D = some (.lst acc2) ∧ G8 D = none ∧ Fra B H1 H8 := fun {σ2 δ2 H8 G8} R8 =>
          ⟨Ro.outer R8, Rl.outer R8, R8.ent _ _ e2 dB, by
            cases z : G8 D with
            | none => rfl
            | some o =>
              rcases R8.gn _ _ z with y | y
              · rw [gD2] at y; cases y
              · rw [e2] at y; (cases y), fr2.trans fun a o e n => R8.ent a o e n⟩
        refine ⟨B, Hc, G2, _, G7, ys[j], R7.wipes vs1, hd7, mg1 _ _ _ _ q2 fun δ8 q8 σ8 ew8 R8 => ⟨ew8.trans (wipe_wipe σ4 vs1), ?_⟩⟩
        refine ⟨B, Hc, G2, δ8, G7, R8, mt1 _ _ _ q8 fun b1 δ9 q9 H9 G9 R9 s9 f9 => ?_⟩
        obtain ⟨rfl, q9⟩ := q9
        cases b1 with
        | false =>
          obtain ⟨w1, w2, w3, w4, w5⟩ := fin1 R9
          exact ⟨acc2, accD2, G9, w3, DdA.mono R9.g0 _ _ hA2, by omega, w1, w2, sg2.trans R9.g0, w4, w5, q9⟩
        | true =>
          refine ⟨B, Hc, G2, δ9, G9, R9, me _ _ _ q9 fun r δa qa v Ha Ga Ra sa fa ok => ?_⟩
          obtain ⟨rfl, qa⟩ := qa
          split at qa
          · rename_i y ey
            obtain ⟨Gb, Rb2, sb, hy⟩ := freeze Ra ok ey
            obtain ⟨w1, w2, w3, w4, w5⟩ := fin1 Rb2
            have hl : (acc2 ++ [v]).length ≤ acc.length + (j + 1) := by rw [List.length_append]; show acc2.length + 1 ≤ _; omega
            have hsz : acc2.length < sizeLine := by have := hA.len; omega
            have noO : ∀ t, ¬ Own σ4 (hideOwn δ6) t D := fun t ⟨_, s, e, io⟩ => by rw [(hide_get e).1] at io; cases io
            have so : SzO (.lst (acc2 ++ [v])) := by show (acc2 ++ [v]).length ≤ sizeLine; rw [List.length_append]; exact hsz
            refine ⟨acc2, w3, hsz, acc2 ++ [v], accD2 ++ [y], Gb, upd_same, (DdA.mono Rb2.g0 _ _ hA2).append (.one hy), hl, ?_, ?_, sg2.trans Rb2.g0, w4, fun a o e n => ?_, qa⟩
            · exact w1.writeFree d0 w4 dB (fun t oj => by
                obtain ⟨e1, s, e2, e3⟩ := oj
                exact dO t ⟨e1, s, e2, e3⟩) so
            · exact w2.writeFree d0 w4 dB noO so
            · by_cases ha : a = D
              · subst ha; rw [hD] at e; cases e
              · rw [upd_ne ha]; exact w5 a o e n
          · exact qa.elim
      · have ej : j = ys.length := by omega
        subst ej
        rw [List.drop_length] at q2
        exact .inl ⟨stop1, acc2, accD2, G2, e2, hA2, Ro, gD2, fr2, q2⟩
  · have ei : i = xs.length := by omega
    subst ei
    obtain ⟨_, stop⟩ := it B H0 G1 H' σ δ1 G' R' R'.g0
    rw [List.drop_length] at q'
    refine .inl ⟨stop, q' (.ref D) H' G' (R1.back R') (s1.trans R'.g0) (f1.trans f') ⟨⟨D, rfl, gD', acc, eD, hA⟩, fun z => (nomatch z), fun _ a e => ?_⟩⟩
    cases e
    exact ⟨d0, dB, dO⟩
theorem tdLc2_mono (hi : MonoI ti) (mg : MonoG g) (mt : MonoT tt) (mi1 : MonoI ti1) (mg1 : MonoG g1) (mt1 : MonoT tt1) (me : MonoD te) : MonoD (tdLc2 ti g tt ti1 g1 tt1 te vs vs1) := fun δ Q Q' q w => hi _ _ _ q fun xs δ1 q => compD2_mono mg mt mi1 mg1 mt1 me (fun ys q => w _ _ q) _ _ q
theorem pd_lc2 (hc : X.calm = true) (hN : X.N.Nodup) (hi : PDI X tg iter ti) (ok : BlkOk X.N X.env.scope scope own) (ev : own.map (·.2) = vs) (hv : ∀ i ∈ vs1, i ∈ own.map (·.2))
    (hg : ∀ s H C cl fp, PDG (Blk X scope s H C cl fp) tg vs g) (ht : ∀ s H C cl fp, PDTs (Blk X scope s H C cl fp) ifs tt) (hi1 : ∀ s H C cl fp, PDI (Blk X scope s H C cl fp) tg1 iter1 ti1) (hg1 : ∀ s H C cl fp, PDG (Blk X scope s H C cl fp) tg1 vs1 g1) (ht1 : ∀ s H C cl fp, PDTs (Blk X scope s H C cl fp) ifs1 tt1) (he : ∀ s H C cl fp, PD (Blk X scope s H C cl fp) elt te)
    (hs : ∀ x, foldedSetIterable iter X.env x = pure x := by intro _; rfl) (hs1 : ∀ env x, foldedSetIterable iter1 env x = pure x := by intro _ _; rfl) : PD X (.ListComp elt [⟨tg, iter, ifs, 0⟩, ⟨tg1, iter1, ifs1, 0⟩] scope pos) (tdLc2 ti g tt ti1 g1 tt1 te vs vs1) := by
  subst ev
  have m1 := (hg X.s_0 X.H_0 0 [] []).mono
  have m2 := (ht X.s_0 X.H_0 0 [] []).mono
  have m3 := (he X.s_0 X.H_0 0 [] []).mono
  have m4 := (hi1 X.s_0 X.H_0 0 [] []).mono
  have m5 := (hg1 X.s_0 X.H_0 0 [] []).mono
  have m6 := (ht1 X.s_0 X.H_0 0 [] []).mono
  exact ⟨PE.weak (pe_lc2 (te := tyE X.K te) (tt := tyT X.K tt) (g := tyG X.K (own.map (·.2)) g) (wi1 := tyI X.K ti1) (g1 := tyG X.K vs1 g1) (tt1 := tyT X.K tt1) hc hN hi.pi ok hv (fun s H C cl fp => (hg s H C cl fp).pg) (fun s H C cl fp => (ht s H C cl fp).pt) (fun s H C cl fp => (hi1 s H C cl fp).pi) (fun s H C cl fp => (hg1 s H C cl fp).pg) (fun s H C cl fp => (ht1 s H C cl fp).pt) (fun s H C cl fp => (he s H C cl fp).pe) hs hs1) (tdLc2_run hi.mono m1 m2 m4 m5 m6 m3), tdLc2_mono hi.mono m1 m2 m4 m5 m6 m3⟩
end
theorem pdg_nameW {X : Cx} {tg : Expr} {i : Nat} {vs : List Nat} (h : PG X tg (gName i)) (hi : i ∈ vs) : PDG X tg vs (gdName i) :=
  ⟨PG.weak h fun v σ H Q ⟨B, H0, G0, δ, G, d, R, hd, q⟩ => q _ (wipe_set hi) (R.assign (resOk_dt hd) i), fun d δ Q Q' q w => w _ q⟩
def blsOf : List D → Option (List Bool)
  | [] => some []
  | .bl b :: ds => match blsOf ds with
    | some bs => some (b :: bs)
    | none => none
  | _ :: _ => none
theorem blsOf_map : ∀ bs : List Bool, blsOf (bs.map D.bl) = some bs
  | [] => rfl
  | b :: bs => by show (match blsOf (bs.map D.bl) with | some bs => some (b :: bs) | none => none) = _; rw [blsOf_map bs]
theorem blsOf_ok {K : PySem.W.Frag} {G : Hp} : ∀ {vs : List V} {ds : List D} {bs : List Bool}, DdA K G vs ds → blsOf ds = some bs → vs = bs.map V.bl
  | _, [], _, h, e => by cases h; cases e; rfl
  | _, .bl b :: ds, _, h, e => by
    cases h with
    | cons h1 h2 =>
      have e' : (match blsOf ds with | some bs => some (b :: bs) | none => none) = some _ := e
      cases e1 : blsOf ds with
      | none => rw [e1] at e'; cases e'
      | some bs => rw [e1] at e'; cases e'; cases h1; rw [blsOf_ok h2 e1]; rfl
  | _, .non :: ds, _, h, e => by cases e
  | _, .int _ :: ds, _, h, e => by cases e
  | _, .str _ :: ds, _, h, e => by cases e
  | _, .lst _ :: ds, _, h, e => by cases e
  | _, .tup _ :: ds, _, h, e => by cases e
  | _, .dK _ _ :: ds, _, h, e => by cases e
  | _, .dT _ _ :: ds, _, h, e => by cases e
  | _, .dL _ _ :: ds, _, h, e => by cases e
  | _, .ins _ _ _ :: ds, _, h, e => by cases e
def gAll : D → List Sl → QD → Prop := fun d δ Q => match d with
  | .lst xs => match blsOf xs with
    | some bs => Q (.dt (.bl (bs.all id))) δ
    | none => False
  | _ => False
def gAny : D → List Sl → QD → Prop := fun d δ Q => match d with
  | .lst xs => match blsOf xs with
    | some bs => Q (.dt (.bl (bs.any id))) δ
    | none => False
  | _ => False
section
variable {X : Cx} {e : Expr} {u : TDA} {p pos : Pos}
theorem pd_all (hc : X.calm = true) (hg : Gl X "all") (hm : X.mg "all" = none) (h : PDA X [e] u) (he : starEach [e] X.env = (false, eval e X.env) :: starEach [] X.env := by rfl) (hpl : (backTo pos (starEach [] X.env)).any (·.1) = false := by rfl) :
    PD X (.Call (.Name "all" p) [e] [] pos) (tdCB (f1 gAll) u) :=
  pd_callB (cr_all hc) (mono_f1 fun d δ Q Q' q w => by
      unfold gAll at q ⊢
      split at q
      · split at q
        · exact w _ _ q
        · exact q
      · exact q)
    (callS_1 fun B H0 G0 H σ δ G v d Q R hd q => by
      unfold gAll at q
      split at q
      · split at q
        · rename_i bs e1
          cases hd with
          | lst h1 h2 =>
            have z := blsOf_ok h2 e1
            subst z
            exact ⟨_, bs, rfl, SqL.of (R.sub _ _ h1), aft_here R (.bl _) q⟩
        · exact q.elim
      · exact q.elim) hg hm boot_all h (by decide) (by decide) he hpl
theorem pd_any (hc : X.calm = true) (hg : Gl X "any") (hm : X.mg "any" = none) (h : PDA X [e] u) (he : starEach [e] X.env = (false, eval e X.env) :: starEach [] X.env := by rfl) (hpl : (backTo pos (starEach [] X.env)).any (·.1) = false := by rfl) :
    PD X (.Call (.Name "any" p) [e] [] pos) (tdCB (f1 gAny) u) :=
  pd_callB (cr_any hc) (mono_f1 fun d δ Q Q' q w => by
      unfold gAny at q ⊢
      split at q
      · split at q
        · exact w _ _ q
        · exact q
      · exact q)
    (callS_1 fun B H0 G0 H σ δ G v d Q R hd q => by
      unfold gAny at q
      split at q
      · split at q
        · rename_i bs e1
          cases hd with
          | lst h1 h2 =>
            have z := blsOf_ok h2 e1
            subst z
            exact ⟨_, bs, rfl, SqL.of (R.sub _ _ h1), aft_here R (.bl _) q⟩
        · exact q.elim
      · exact q.elim) hg hm boot_any h (by decide) (by decide) he hpl
end
end DL
set_option Elab.async false
set_option linter.all false
set_option maxRecDepth 100000
set_option maxHeartbeats 4000000
namespace DL
open PySem PySem.Spec PyProof.Rows L2
inductive W3 where | sum | most | least
  deriving DecidableEq
def W3.s : W3 → Str
  | .sum => "sum"
  | .most => "most"
  | .least => "least"
inductive WR where | total | many | top | low
  deriving DecidableEq
def WR.s : WR → Str
  | .total => "total"
  | .many => "many"
  | .top => "top"
  | .low => "low"
inductive SG where | eq | ne | lt | le | gt | ge
  deriving DecidableEq
def SG.s : SG → Str
  | .eq => "="
  | .ne => "<>"
  | .lt => "<"
  | .le => "<="
  | .gt => ">"
  | .ge => ">="
inductive Hd where
  | mn (w : W3) | tm (i : Int) | ov | cs (s : SG)
inductive Fm where
  | num (i : Int) | emp | inp | nm (c r : D) | rg (w : WR) (c a b : D) | node (h : Hd) (xs : List Fm)
inductive Rd where
  | nm (c r : D) | rg (c a b : D)
def Rd.d : Rd → D
  | .nm c r => .tup [.str "name", c, r]
  | .rg c a b => .tup [.str "rows", c, a, b]
def Rd.isRg : Rd → Bool
  | .nm _ _ => false
  | .rg _ _ _ => true
def hdD : Hd → List D → D
  | .mn w, ds => .tup [.str w.s, .tup ds]
  | .tm i, ds => .tup (.str "times" :: .int i :: ds)
  | .ov, ds => .tup (.str "over" :: ds)
  | .cs s, ds => .tup (.str "case" :: match ds with
    | [] => []
    | d :: ds => d :: .str s.s :: ds)
mutual
def Fm.d : Fm → D
  | .num i => .tup [.str "number", .int i]
  | .emp => .tup [.str "empty"]
  | .inp => .tup [.str "input"]
  | .nm c r => .tup [.str "name", c, r]
  | .rg w c a b => .tup [.str w.s, .tup [.str "rows", c, a, b]]
  | .node h xs => hdD h (fdA xs)
def fdA : List Fm → List D
  | [] => []
  | x :: xs => x.d :: fdA xs
end
theorem fdA_map : ∀ xs : List Fm, fdA xs = xs.map Fm.d
  | [] => by rw [fdA]; rfl
  | x :: xs => by rw [fdA, fdA_map xs]; rfl
theorem fdA_len (xs : List Fm) : (fdA xs).length = xs.length := by rw [fdA_map, List.length_map]
def Hd.fit : Hd → List Fm → Prop
  | .mn _, _ => True
  | .tm _, xs => ∃ a, xs = [a]
  | .ov, xs => ∃ a b, xs = [a, b]
  | .cs _, xs => ∃ a b c d, xs = [a, b, c, d]
theorem Hd.fit_len {h : Hd} {xs ys : List Fm} (e : xs.length = ys.length) (f : h.fit xs) : h.fit ys := by
  cases h with
  | mn => trivial
  | tm => obtain ⟨a, rfl⟩ := f; match ys, e with | [x], _ => exact ⟨x, rfl⟩
  | ov => obtain ⟨a, b, rfl⟩ := f; match ys, e with | [x, y], _ => exact ⟨x, y, rfl⟩
  | cs => obtain ⟨a, b, c, d, rfl⟩ := f; match ys, e with | [x, y, z, u], _ => exact ⟨x, y, z, u, rfl⟩
def Fm.parts : Fm → List Fm
  | .node _ xs => xs
  | _ => []
mutual
def Fm.wf : Fm → Prop
  | .node h xs => h.fit xs ∧ wfA xs
  | .num _ => True
  | .emp => True
  | .inp => True
  | .nm _ _ => True
  | .rg _ _ _ _ => True
def wfA : List Fm → Prop
  | [] => True
  | x :: xs => x.wf ∧ wfA xs
end
mutual
def Fm.hgt : Fm → Nat
  | .node _ xs => hgtA xs + 1
  | .num _ => 0
  | .emp => 0
  | .inp => 0
  | .nm _ _ => 0
  | .rg _ _ _ _ => 0
def hgtA : List Fm → Nat
  | [] => 0
  | x :: xs => max x.hgt (hgtA xs)
end
mutual
def Fm.rds : Fm → List Rd
  | .nm c r => [.nm c r]
  | .rg _ c a b => [.rg c a b]
  | .node _ xs => rdsA xs
  | .num _ => []
  | .emp => []
  | .inp => []
def rdsA : List Fm → List Rd
  | [] => []
  | x :: xs => x.rds ++ rdsA xs
end
def wrNm (c r : D) : List Rd → Fm
  | .nm c r :: _ => .nm c r
  | _ => .nm c r
def wrRg (w : WR) (c a b : D) : List Rd → Fm
  | .rg c a b :: _ => .rg w c a b
  | _ => .rg w c a b
theorem wrNm_ex (c r : D) (os : List Rd) : ∃ c' r', wrNm c r os = .nm c' r' := by
  unfold wrNm; split <;> exact ⟨_, _, rfl⟩
theorem wrRg_ex (w : WR) (c a b : D) (os : List Rd) : ∃ c' a' b', wrRg w c a b os = .rg w c' a' b' := by
  unfold wrRg; split <;> exact ⟨_, _, _, rfl⟩
mutual
def Fm.wr : Fm → List Rd → Fm
  | .nm c r, os => wrNm c r os
  | .rg w c a b, os => wrRg w c a b os
  | .node h xs, os => .node h (wrA xs os)
  | .num i, _ => .num i
  | .emp, _ => .emp
  | .inp, _ => .inp
def wrA : List Fm → List Rd → List Fm
  | [], _ => []
  | x :: xs, os => x.wr (os.take x.rds.length) :: wrA xs (os.drop x.rds.length)
end
mutual
def Fm.dep : Fm → Nat
  | .node _ xs => depA xs
  | .num _ => 0
  | .emp => 0
  | .inp => 0
  | .nm _ _ => 0
  | .rg _ _ _ _ => 0
def depA : List Fm → Nat
  | [] => 0
  | x :: xs => max (x.dep + 1) (depA xs)
end
mutual
def Fm.hasInp : Fm → Bool
  | .inp => true
  | .node _ xs => hasInpA xs
  | .num _ => false
  | .emp => false
  | .nm _ _ => false
  | .rg _ _ _ _ => false
def hasInpA : List Fm → Bool
  | [] => false
  | x :: xs => x.hasInp || hasInpA xs
end
def SameS (os ss : List Rd) : Prop := os.map Rd.isRg = ss.map Rd.isRg
theorem SameS.len {os ss : List Rd} (h : SameS os ss) : os.length = ss.length := by
  have z := congrArg List.length h
  rw [List.length_map, List.length_map] at z
  exact z
theorem SameS.split {os as bs : List Rd} (h : SameS os (as ++ bs)) : SameS (os.take as.length) as ∧ SameS (os.drop as.length) bs := by
  unfold SameS at *
  rw [List.map_append] at h
  constructor
  · rw [List.map_take, h, List.take_left' (by rw [List.length_map])]
  · rw [List.map_drop, h, List.drop_left' (by rw [List.length_map])]
theorem sames1 {os : List Rd} {x : Rd} (h : SameS os [x]) : ∃ y, os = [y] ∧ y.isRg = x.isRg := by
  match os, h with
  | [y], h => exact ⟨y, rfl, by simpa [SameS] using h⟩
  | [], h => simp [SameS] at h
  | _ :: _ :: _, h => simp [SameS] at h
theorem wrA_len : ∀ (xs : List Fm) (os : List Rd), (wrA xs os).length = xs.length
  | [], _ => by rw [wrA]
  | x :: xs, os => by rw [wrA, List.length_cons, wrA_len xs, List.length_cons]
mutual
theorem wr_hgt : ∀ (f : Fm) (os : List Rd), (f.wr os).hgt = f.hgt
  | .nm c r, os => by obtain ⟨_, _, e⟩ := wrNm_ex c r os; rw [Fm.wr, e]; rw [Fm.hgt, Fm.hgt]
  | .rg w c a b, os => by obtain ⟨_, _, _, e⟩ := wrRg_ex w c a b os; rw [Fm.wr, e]; rw [Fm.hgt, Fm.hgt]
  | .node g xs, os => by rw [Fm.wr, Fm.hgt, Fm.hgt, wrA_hgt xs os]
  | .num i, os => by rw [Fm.wr]
  | .emp, os => by rw [Fm.wr]
  | .inp, os => by rw [Fm.wr]
theorem wrA_hgt : ∀ (xs : List Fm) (os : List Rd), hgtA (wrA xs os) = hgtA xs
  | [], os => by rw [wrA]
  | x :: xs, os => by rw [wrA, hgtA, hgtA, wr_hgt x, wrA_hgt xs]
end
end DL
set_option Elab.async false
set_option linter.all false
set_option maxRecDepth 100000
set_option maxHeartbeats 4000000
namespace DL
open PySem PySem.Spec PyProof.Rows L2
theorem fnx_no {P : Program} {w : World} {K : PySem.W.Frag} {mg : Str → Option Value} {base : Heap} {x : Str} {st : Stmt} {ps : List Str} {n : Nat} {t : TF} (D0 : Dfn K mg x st ps) (no : ∀ rs Q, ¬ t rs Q) (k : Nat) : FnX P w K mg base k x n t := by
  obtain ⟨f, fd, F, hm, hbd⟩ := D0.ex
  have no' : ∀ vs H Q E, spD K n t vs H Q E → False := fun vs H Q E h => by obtain ⟨_, _, _, _, _, _, _, _, z⟩ := h; exact no _ _ z
  exact ⟨⟨f, fd, ps, ⟨fun vs H Q E h => (no' _ _ _ _ h).elim, fun A outer s H args us vs Q E hr he hb hv hs => (no' _ _ _ _ hs).elim⟩, hm, F.kp, hbd⟩, fun _ _ _ q _ => (no _ _ q).elim, fun _ _ q => (no _ _ q).elim⟩
theorem forD_L {g : TDG} {tb : TDS} {D : EndsD} (Inv : List DL.D → List Sl → Prop)
    (step : ∀ d ds δ (N : List Sl → Prop), Inv (d :: ds) δ → (∀ δ', Inv ds δ' → N δ') → g d δ fun δ1 => tb { D with nx := N, ct := N, bk := D.nx } δ1) (done : ∀ δ, Inv [] δ → D.nx δ) : ∀ (ds : List DL.D) (δ : List Sl), Inv ds δ → forD g tb D ds δ
  | [], δ, h => done δ h
  | d :: ds, δ, h => step d ds δ _ h (fun δ' q => forD_L Inv step done ds δ' q)
def tFm (pre : Fm → Prop) (res : Fm → Sl) : TF := fun rs Q => ∃ f : Fm, rs = [.dt f.d] ∧ pre f ∧ Q (res f)
theorem mono_tFm {pre : Fm → Prop} {res : Fm → Sl} : MonoF (tFm pre res) := fun rs Q Q' ⟨f, e, p, q⟩ w => ⟨f, e, p, w _ q⟩
theorem len_tFm {pre : Fm → Prop} {res : Fm → Sl} : ∀ rs Q, tFm pre res rs Q → rs.length = 1 := fun rs Q ⟨f, e, _⟩ => by rw [e]; rfl
def tR2 (R : Sl → Sl → Sl → Prop) : TF := fun rs Q => ∃ a b r, rs = [a, b] ∧ R a b r ∧ Q r
theorem mono_tR2 {R : Sl → Sl → Sl → Prop} : MonoF (tR2 R) := fun rs Q Q' ⟨a, b, r, e, p, q⟩ w => ⟨a, b, r, e, p, w _ q⟩
theorem len_tR2 {R : Sl → Sl → Sl → Prop} : ∀ rs Q, tR2 R rs Q → rs.length = 2 := fun rs Q ⟨a, b, r, e, _⟩ => by rw [e]; rfl
mutual
def Fm.sz : Fm → Nat
  | .node _ xs => szA xs + 1
  | .num _ => 1
  | .emp => 1
  | .inp => 1
  | .nm _ _ => 1
  | .rg _ _ _ _ => 1
def szA : List Fm → Nat
  | [] => 0
  | x :: xs => x.sz + szA xs
end
mutual
theorem rds_sz : ∀ f : Fm, f.rds.length ≤ f.sz
  | .node _ xs => by rw [Fm.rds, Fm.sz]; have := rdsA_sz xs; omega
  | .num _ => by rw [Fm.rds, Fm.sz]; decide
  | .emp => by rw [Fm.rds, Fm.sz]; decide
  | .inp => by rw [Fm.rds, Fm.sz]; decide
  | .nm _ _ => by rw [Fm.rds, Fm.sz]; exact Nat.le_refl 1
  | .rg _ _ _ _ => by rw [Fm.rds, Fm.sz]; exact Nat.le_refl 1
theorem rdsA_sz : ∀ xs : List Fm, (rdsA xs).length ≤ szA xs
  | [] => by rw [rdsA, szA]; exact Nat.le_refl 0
  | x :: xs => by rw [rdsA, szA, List.length_append]; have := rds_sz x; have := rdsA_sz xs; omega
end
theorem sz_pos (f : Fm) : 1 ≤ f.sz := by cases f <;> rw [Fm.sz] <;> omega
theorem szA_len : ∀ xs : List Fm, xs.length ≤ szA xs
  | [] => Nat.zero_le _
  | x :: xs => by rw [szA, List.length_cons]; have := sz_pos x; have := szA_len xs; omega
structure Fm.Sm (n : Nat) (f : Fm) : Prop where
  wf : f.wf
  hgt : f.hgt < n
  sz : f.sz ≤ 100000
theorem smA {n : Nat} : ∀ {xs : List Fm}, wfA xs → hgtA xs < n → szA xs ≤ 100000 → ∀ x ∈ xs, x.Sm n
  | x :: xs, w, h, s, y, hy => by
    rw [wfA] at w; rw [hgtA] at h; rw [szA] at s
    rcases List.mem_cons.mp hy with rfl | hy
    · exact ⟨w.1, by omega, by omega⟩
    · exact smA w.2 (by omega) (by omega) y hy
theorem Fm.Sm.parts {n : Nat} {f : Fm} (h : f.Sm (n + 1)) : ∀ x ∈ f.parts, x.Sm n := by
  cases f with
  | node g xs =>
    have w := h.wf; have t := h.hgt; have s := h.sz
    rw [Fm.wf] at w; rw [Fm.hgt] at t; rw [Fm.sz] at s
    exact smA (xs := xs) w.2 (by omega) (by omega)
  | _ => exact fun x hx => (List.not_mem_nil hx).elim
theorem parts_len {f : Fm} : f.parts.length ≤ f.sz := by
  cases f with
  | node g xs => show xs.length ≤ _; rw [Fm.sz]; have := szA_len xs; omega
  | _ => exact Nat.zero_le _
end DL
set_option Elab.async false
set_option linter.all false
set_option maxRecDepth 100000
set_option maxHeartbeats 4000000
namespace DL
open PySem PySem.Spec PyProof.Rows L2
def isInt : D → Bool
  | .int _ => true
  | _ => false
def isPart : D → Bool
  | .tup [.str k] => decide (k = "lost")
  | .tup [.str k, .int i] => decide (k = "by") || (decide (k = "at") && decide (0 ≤ i))
  | _ => false
def isRow : D → Bool
  | .tup [.str k] => inV (.str k) [.str "head", .str "foot"]
  | .tup [.str k, .int i] => decide (k = "by") || (decide (k = "last") && decide (0 ≤ i))
  | _ => false
def isName : D → Bool
  | .tup [.str k, c, r] => decide (k = "name") && (isPart c && isRow r)
  | _ => false
def isLim (d : D) : Bool := isNon d || isInt d
def isRange : D → Bool
  | .tup [.str k, c, a, b] => decide (k = "rows") && (isPart c && (isLim a && isLim b))
  | _ => false
abbrev Pl : D → Prop := fun d => plainD d = true
theorem ne_len {xs : List D} {n : Nat} (h : xs.length ≠ n) : (!PyData.eqv (.int (xs.length : Nat)) (.int (n : Nat))) = true := by
  show (!((xs.length : Int) == (n : Int))) = true
  rw [Bool.not_eq_true', beq_eq_false_iff_ne]
  omega
theorem name_len {xs : List D} (h : xs.length ≠ 3) : isName (.tup xs) = false := by
  unfold isName
  split
  · rename_i e; cases e; exact absurd rfl h
  · rfl
theorem range_len {xs : List D} (h : xs.length ≠ 4) : isRange (.tup xs) = false := by
  unfold isRange
  split
  · rename_i e; cases e; exact absurd rfl h
  · rfl
theorem le_szL {n : Nat} (h : Nat.ble n 1000 = true) : n ≤ sizeLine := Nat.le_trans (Nat.le_of_ble_eq_true h) (by decide)
abbrev PF (P : Program) (w : World) (K : PySem.W.Frag) (mg : Str → Option Value) (base : Heap) (k : Nat) (x : Str) (f : D → Sl) : Prop := FnX P w K mg base k x 1 (tf1 Pl f)
def isNum : D → Bool
  | .int i => decide (-(1000000000000 : Int) ≤ i) && decide (i ≤ 1000000000000)
  | _ => false
theorem wipeD_len : ∀ (vs : List Nat) (δ : List Sl), (wipeD δ vs).length = δ.length
  | [], δ => rfl
  | v :: vs, δ => by
    unfold wipeD
    simp [wipeD_len vs δ]
theorem hideOwn_len (δ : List Sl) : (hideOwn δ).length = δ.length := by unfold hideOwn; rw [List.length_map]
theorem comp_id {j : Nat} {δw : List Sl} (hj : j < δw.length) : ∀ (ds acc : List D) (Q : List D → Prop), Q (acc ++ ds) → compD (gdName j) tdYes (tdVar j) δw ds acc Q
  | [], acc, Q, h => by rw [List.append_nil] at h; exact h
  | d :: ds, acc, Q, h => by
    refine ⟨rfl, ?_⟩
    rw [if_pos rfl]
    unfold tdVar
    rw [List.getElem?_set_self hj]
    refine ⟨rfl, ?_⟩
    exact comp_id hj ds _ Q (by rw [List.append_assoc]; exact h)
theorem comp_map {α : Type} {i : Nat} {te : TD} {δw : List Sl} (e f : α → D) : ∀ (xs : List α) (acc : List D) (Q : List D → Prop),
    (∀ x ∈ xs, ∀ (C : Sl → List Sl → Prop), (∀ r, fz r = some (f x) → C r (δw.set i (.dt (e x)))) → te (δw.set i (.dt (e x))) C) →
    Q (acc ++ xs.map f) → compD (gdName i) tdYes te δw (xs.map e) acc Q
  | [], acc, Q, _, h => by rw [List.map_nil, List.append_nil] at h; exact h
  | x :: xs, acc, Q, he, h => by
    refine ⟨rfl, ?_⟩
    rw [if_pos rfl]
    refine he x List.mem_cons_self _ fun r hr => ⟨rfl, ?_⟩
    rw [hr]
    exact comp_map e f xs _ Q (fun y hy => he y (List.mem_cons_of_mem _ hy)) (by rw [List.append_assoc]; exact h)
theorem comp2_flat {α : Type} {i j : Nat} {ti1 : TDI} {δw : List Sl} {vs1 : List Nat} (e : α → D) (f : α → List D) (hj : j < δw.length) : ∀ (xs : List α) (acc : List D) (Q : List D → Prop),
    (∀ x ∈ xs, ∀ (C : List D → List Sl → Prop), C (f x) (δw.set i (.dt (e x))) → ti1 (δw.set i (.dt (e x))) C) → acc.length + (xs.flatMap f).length ≤ sizeLine →
    Q (acc ++ xs.flatMap f) → compD2 (gdName i) tdYes ti1 (gdName j) tdYes (tdVar j) δw vs1 (xs.map e) acc Q
  | [], acc, Q, _, _, h => by rw [List.flatMap_nil, List.append_nil] at h; exact h
  | x :: xs, acc, Q, he, hz, h => by
    rw [List.flatMap_cons, List.length_append] at hz
    refine ⟨rfl, ?_⟩
    rw [if_pos rfl]
    refine he x List.mem_cons_self _ ⟨rfl, by omega, ?_⟩
    refine comp_id (by rw [wipeD_len, hideOwn_len, List.length_set]; exact hj) _ _ _ ?_
    refine comp2_flat e f hj xs _ Q (fun y hy => he y (List.mem_cons_of_mem _ hy)) (by rw [List.length_append]; omega) ?_
    rw [List.append_assoc]; exact h
theorem rdsA_flat : ∀ xs : List Fm, (rdsA xs).map Rd.d = xs.flatMap fun x => x.rds.map Rd.d
  | [] => by rw [rdsA]; rfl
  | x :: xs => by rw [rdsA, List.map_append, rdsA_flat xs, List.flatMap_cons]
theorem inpA_any : ∀ xs : List Fm, (xs.map Fm.hasInp).any id = hasInpA xs
  | [] => by rw [hasInpA]; rfl
  | x :: xs => by rw [hasInpA, List.map_cons, List.any_cons, inpA_any xs]; rfl
theorem inp_parts (f : Fm) (h : f ≠ .inp) : f.hasInp = hasInpA f.parts := by
  cases f <;> first | exact absurd rfl h | (rw [Fm.hasInp]; rfl)
def Rd.ok : Rd → Prop
  | .nm c r => isPart c = true ∧ isRow r = true
  | .rg c a b => isPart c = true ∧ isLim a = true ∧ isLim b = true
def rowW : D → Str
  | .tup (.str w :: _) => w
  | _ => ""
def Rd.fits : Rd → Str → Bool
  | .nm _ r, p => decide (rowW r = "head") || (decide (rowW r = "by") && decide (p = "body") || inV (.str (rowW r)) [.str "foot", .str "last"] && decide (p = "foot"))
  | .rg _ a b, p => decide (p = "body") || decide (p = "foot") && (isNon a && isNon b)
def Fm.fits : Fm → Str → Bool
  | .inp, p => inV (.str p) [.str "head", .str "body"]
  | f, p => !f.hasInp && f.rds.all fun r => r.fits p
theorem row_cases {r : D} (h : isRow r = true) : (∃ w, r = .tup [.str w] ∧ inV (.str w) [.str "head", .str "foot"] = true) ∨ ∃ w i, r = .tup [.str w, .int i] ∧ (w = "by" ∨ w = "last" ∧ 0 ≤ i) := by
  unfold isRow at h
  split at h
  · exact .inl ⟨_, rfl, h⟩
  · rename_i k i
    refine .inr ⟨k, i, rfl, ?_⟩
    rw [Bool.or_eq_true, Bool.and_eq_true] at h
    rcases h with h | h
    · exact .inl (of_decide_eq_true h)
    · exact .inr ⟨of_decide_eq_true h.1, of_decide_eq_true h.2⟩
  · cases h
theorem part_cases {c : D} (h : isPart c = true) : c = .tup [.str "lost"] ∨ (∃ i, c = .tup [.str "by", .int i]) ∨ ∃ i, c = .tup [.str "at", .int i] ∧ 0 ≤ i := by
  unfold isPart at h
  split at h
  · rw [of_decide_eq_true h]; exact .inl rfl
  · rename_i k i
    rw [Bool.or_eq_true, Bool.and_eq_true] at h
    rcases h with h | h
    · rw [of_decide_eq_true h]; exact .inr (.inl ⟨i, rfl⟩)
    · rw [of_decide_eq_true h.1]; exact .inr (.inr ⟨i, rfl, of_decide_eq_true h.2⟩)
  · cases h
theorem lim_cases {d : D} (h : isLim d = true) : d = .non ∨ ∃ i, d = .int i := by
  cases d <;> first | exact .inl rfl | exact .inr ⟨_, rfl⟩ | cases h
theorem part_plain {c : D} (h : isPart c = true) : plainD c = true := by
  rcases part_cases h with rfl | ⟨i, rfl⟩ | ⟨i, rfl, _⟩ <;> rfl
theorem row_plain {c : D} (h : isRow c = true) : plainD c = true := by
  rcases row_cases h with ⟨w, rfl, _⟩ | ⟨w, i, rfl, _⟩ <;> rfl
theorem lim_plain {c : D} (h : isLim c = true) : plainD c = true := by
  rcases lim_cases h with rfl | ⟨i, rfl⟩ <;> rfl
def Hd.ok : Hd → Prop
  | .tm i => isNum (.int i) = true
  | _ => True
mutual
def Fm.ok : Fm → Prop
  | .num i => isNum (.int i) = true
  | .emp => True
  | .inp => True
  | .nm c r => Rd.ok (.nm c r)
  | .rg _ c a b => Rd.ok (.rg c a b)
  | .node h xs => h.ok ∧ okA xs
def okA : List Fm → Prop
  | [] => True
  | x :: xs => x.ok ∧ okA xs
end
theorem okA_mem : ∀ {xs : List Fm}, okA xs → ∀ x ∈ xs, x.ok
  | x :: xs, h, y, hy => by
    rw [okA] at h
    rcases List.mem_cons.mp hy with rfl | hy
    · exact h.1
    · exact okA_mem h.2 y hy
theorem hdD_plain {g : Hd} {ds : List D} (h : plainA ds = true) : plainD (hdD g ds) = true := by
  cases g with
  | mn w => show (true && (plainA ds && true)) = true; rw [h]; rfl
  | tm i => show (true && (true && plainA ds)) = true; rw [h]; rfl
  | ov => show (true && plainA ds) = true; rw [h]; rfl
  | cs s =>
    cases ds with
    | nil => rfl
    | cons d ds =>
      obtain ⟨h1, h2⟩ := plain_cons h
      show (true && (plainD d && (true && plainA ds))) = true
      rw [h1, h2]; rfl
mutual
theorem ok_plain : ∀ f : Fm, f.ok → plainD f.d = true
  | .num i, _ => by rw [Fm.d]; rfl
  | .emp, _ => by rw [Fm.d]; rfl
  | .inp, _ => by rw [Fm.d]; rfl
  | .nm c r, h => by
    rw [Fm.ok] at h
    rw [Fm.d]
    show (true && (plainD c && (plainD r && true))) = true
    rw [part_plain h.1, row_plain h.2]; rfl
  | .rg w c a b, h => by
    rw [Fm.ok] at h
    rw [Fm.d]
    show (true && ((true && (plainD c && (plainD a && (plainD b && true)))) && true)) = true
    rw [part_plain h.1, lim_plain h.2.1, lim_plain h.2.2]; rfl
  | .node g xs, h => by rw [Fm.ok] at h; rw [Fm.d]; exact hdD_plain (okA_plain xs h.2)
theorem okA_plain : ∀ xs : List Fm, okA xs → plainA (fdA xs) = true
  | [], _ => by rw [fdA]; rfl
  | x :: xs, h => by
    rw [okA] at h
    rw [fdA]
    show (plainD x.d && plainA (fdA xs)) = true
    rw [ok_plain x h.1, okA_plain xs h.2]; rfl
end
theorem all_true : ∀ n : Nat, (List.replicate n true).all id = true
  | 0 => rfl
  | n + 1 => by rw [List.replicate_succ, List.all_cons, all_true n]; rfl
end DL
set_option Elab.async false
set_option linter.all false
set_option maxRecDepth 100000
set_option maxHeartbeats 4000000
namespace DL
open PySem PySem.Spec PyProof.Rows L2
inductive IsPl : Str → Prop
  | head : IsPl "head"
  | body : IsPl "body"
  | foot : IsPl "foot"
theorem bs_str {x : Str} (h : bsB 100 0 (.str x) = true) : Bs 100 0 (.str x) := bsB_ok h
theorem bs_i {i : Int} (h : i.natAbs < 100) : Bs 100 0 (.int i) := (bs_int (Nat.lt_of_lt_of_le h (by decide))).mono (by decide) (by decide)
theorem bs_num {i : Int} (h : isNum (.int i) = true) : Bs 100 0 (.int i) := by
  have h' : (decide (-(1000000000000 : Int) ≤ i) && decide (i ≤ 1000000000000)) = true := h
  rw [Bool.and_eq_true] at h'
  have h1 := of_decide_eq_true h'.1
  have h2 := of_decide_eq_true h'.2
  refine (bs_int (Nat.lt_of_lt_of_le (by omega : i.natAbs < 1000000000001) (by decide))).mono (by decide) (by decide)
theorem bs_cons {c1 c2 h : Nat} {d : D} {ds : List D} (a : Bs c1 h d) (b : Bs c2 (h + 1) (.tup ds)) : Bs (c1 + c2 + 2) (h + 1) (.tup (d :: ds)) := by
  obtain ⟨a1, a2, a3, a4, a5, a6, a7⟩ := a
  obtain ⟨b1, b2, b3, b4, b5, b6, b7⟩ := b
  refine ⟨?_, ⟨a2, b2⟩, ?_, ?_, ?_, ?_, ?_⟩
  · show (plainD d && plainA ds) = true
    rw [a1, show plainA ds = true from b1]; rfl
  · show costD d + 2 + costA ds + 3 ≤ c1 + c2 + 2
    have : costA ds + 3 ≤ c2 := b3
    omega
  · show max (py d).depth (PyData.depthAll (pyA ds)) + 1 ≤ h + 1
    have : PyData.depthAll (pyA ds) + 1 ≤ h + 1 := b4
    omega
  · show ((py d).hasDict || PyData.hasDictAll (pyA ds)) = false
    rw [a5, show PyData.hasDictAll (pyA ds) = false from b5]; rfl
  · show (noL d && noLA ds) = true
    rw [a6, show noLA ds = true from b6]; rfl
  · show ((py d).canLay0 && PyData.canLayAll0 (pyA ds)) = true
    rw [a7, show PyData.canLayAll0 (pyA ds) = true from b7]; rfl
theorem bs_nil (h : Nat) : Bs 3 (h + 1) (.tup []) := ⟨rfl, trivial, Nat.le_refl _, (by show 0 + 1 ≤ h + 1; omega), rfl, rfl, rfl⟩
mutual
def sm100 : D → Bool
  | .int i => decide (i.natAbs < 100)
  | .tup xs => sm100A xs
  | .lst _ => false
  | .dK _ _ => false
  | .dT _ _ => false
  | .dL _ _ => false
  | .ins _ _ _ => false
  | .non => true
  | .bl _ => true
  | .str _ => true
def sm100A : List D → Bool
  | [] => true
  | x :: xs => sm100 x && sm100A xs
end
structure RdP (p : Str) (x : Rd) : Prop where
  ok : x.ok
  fits : x.fits p = true
  bs : Bs 1000 2 x.d
  sm : sm100 x.d = true
def Sf : Nat → Nat
  | 0 => 1
  | n + 1 => 6 * Sf n + 1
def Cf : Nat → Nat
  | 0 => 2000
  | n + 1 => 6 * (Cf n + 2) + 300
mutual
def Fm.dr (p : Str) : Fm → Prop
  | .num i => isNum (.int i) = true
  | .emp => True
  | .inp => False
  | .nm c r => RdP p (.nm c r)
  | .rg _ c a b => RdP p (.rg c a b)
  | .node h xs => h.ok ∧ h.fit xs ∧ xs.length ≤ 6 ∧ drA p xs
def drA (p : Str) : List Fm → Prop
  | [] => True
  | x :: xs => x.dr p ∧ drA p xs
end
structure Gf (p : Str) (n : Nat) (f : Fm) : Prop where
  dr : f.dr p
  ok : f.ok
  wf : f.wf
  ni : f.hasInp = false
  hgt : f.hgt ≤ n
  rds : ∀ r ∈ f.rds, RdP p r
  sz : f.sz ≤ Sf n
  bs : Bs (Cf n) (2 * n + 3) f.d
theorem Sf_mono : ∀ {m n : Nat}, m ≤ n → Sf m ≤ Sf n := by
  intro m n h
  induction h with
  | refl => exact Nat.le_refl _
  | step _ ih => show _ ≤ 6 * Sf _ + 1; omega
theorem Cf_mono : ∀ {m n : Nat}, m ≤ n → Cf m ≤ Cf n := by
  intro m n h
  induction h with
  | refl => exact Nat.le_refl _
  | step _ ih => show _ ≤ 6 * (Cf _ + 2) + 300; omega
theorem Gf.mono {p : Str} {m n : Nat} {f : Fm} (h : Gf p m f) (e : m ≤ n) : Gf p n f :=
  ⟨h.dr, h.ok, h.wf, h.ni, Nat.le_trans h.hgt e, h.rds, Nat.le_trans h.sz (Sf_mono e), h.bs.mono (Cf_mono e) (by omega)⟩
theorem gf_num {p : Str} {i : Int} (h : isNum (.int i) = true) : Gf p 0 (.num i) := by
  refine ⟨by rw [Fm.dr]; exact h, by rw [Fm.ok]; exact h, by rw [Fm.wf]; trivial, by rw [Fm.hasInp], by rw [Fm.hgt]; exact Nat.le_refl _, by rw [Fm.rds]; exact fun r hr => (List.not_mem_nil hr).elim, by rw [Fm.sz]; decide, ?_⟩
  rw [Fm.d]
  exact (bs_cons (bs_str (by decide +kernel)) (bs_cons (bs_num h) (bs_nil 0))).mono (by decide) (by decide)
theorem gf_emp {p : Str} : Gf p 0 .emp := by
  refine ⟨by rw [Fm.dr]; trivial, by rw [Fm.ok]; trivial, by rw [Fm.wf]; trivial, by rw [Fm.hasInp], by rw [Fm.hgt]; exact Nat.le_refl _, by rw [Fm.rds]; exact fun r hr => (List.not_mem_nil hr).elim, by rw [Fm.sz]; decide, ?_⟩
  rw [Fm.d]
  exact (bs_cons (bs_str (by decide +kernel)) (bs_nil 0)).mono (by decide) (by decide)
theorem gf_nm {p : Str} {c r : D} (h : RdP p (.nm c r)) : Gf p 0 (.nm c r) := by
  refine ⟨by rw [Fm.dr]; exact h, by rw [Fm.ok]; exact h.ok, by rw [Fm.wf]; trivial, by rw [Fm.hasInp], by rw [Fm.hgt]; exact Nat.le_refl _, ?_, by rw [Fm.sz]; decide, ?_⟩
  · rw [Fm.rds]; intro x hx; rw [List.mem_singleton.mp hx]; exact h
  · rw [Fm.d]; exact h.bs.mono (by decide) (by decide)
theorem gf_rg {p : Str} {w : WR} {c a b : D} (h : RdP p (.rg c a b)) : Gf p 0 (.rg w c a b) := by
  refine ⟨by rw [Fm.dr]; exact h, by rw [Fm.ok]; exact h.ok, by rw [Fm.wf]; trivial, by rw [Fm.hasInp], by rw [Fm.hgt]; exact Nat.le_refl _, ?_, by rw [Fm.sz]; decide, ?_⟩
  · rw [Fm.rds]; intro x hx; rw [List.mem_singleton.mp hx]; exact h
  · rw [Fm.d]
    have z : Bs 100 0 (.str w.s) := by cases w <;> exact bs_str (by decide +kernel)
    exact (bs_cons (z.mono (Nat.le_refl _) (by decide : (0 : Nat) ≤ 2)) (bs_cons (h := 2) h.bs (bs_nil 2))).mono (by decide) (by decide)
theorem gfA {p : Str} {n : Nat} : ∀ {xs : List Fm}, (∀ x ∈ xs, Gf p n x) → drA p xs ∧ okA xs ∧ wfA xs ∧ hasInpA xs = false ∧ hgtA xs ≤ n ∧ (∀ r ∈ rdsA xs, RdP p r) ∧ szA xs ≤ xs.length * Sf n ∧ Bs (xs.length * (Cf n + 2) + 3) (2 * n + 4) (.tup (fdA xs))
  | [], _ => by
    refine ⟨by rw [drA]; trivial, by rw [okA]; trivial, by rw [wfA]; trivial, by rw [hasInpA], by rw [hgtA]; exact Nat.zero_le _, by rw [rdsA]; exact fun r hr => (List.not_mem_nil hr).elim, by rw [szA]; exact Nat.zero_le _, ?_⟩
    rw [fdA]
    exact (bs_nil 0).mono (by simp) (by omega)
  | x :: xs, h => by
    obtain ⟨hd, h1, h2, h3, h4, h5, h6, h7⟩ := gfA fun y hy => h y (List.mem_cons_of_mem _ hy)
    have g := h x List.mem_cons_self
    refine ⟨by rw [drA]; exact ⟨g.dr, hd⟩, by rw [okA]; exact ⟨g.ok, h1⟩, by rw [wfA]; exact ⟨g.wf, h2⟩, by rw [hasInpA, g.ni, h3]; rfl, ?_, ?_, ?_, ?_⟩
    · rw [hgtA]; have := g.hgt; omega
    · rw [rdsA]; intro r hr
      rcases List.mem_append.mp hr with hr | hr
      · exact g.rds r hr
      · exact h5 r hr
    · rw [szA, List.length_cons, Nat.succ_mul]; have := g.sz; omega
    · rw [fdA]
      refine (bs_cons g.bs h7).mono ?_ (Nat.le_refl _)
      rw [List.length_cons, Nat.succ_mul]; omega
theorem gf_node {p : Str} {n : Nat} {g : Hd} {xs : List Fm} (h : ∀ x ∈ xs, Gf p n x) (hl : xs.length ≤ 6) (hf : g.fit xs) (ho : g.ok) : Gf p (n + 1) (.node g xs) := by
  obtain ⟨hd, h1, h2, h3, h4, h5, h6, h7⟩ := gfA h
  have m1 : xs.length * Sf n ≤ 6 * Sf n := Nat.mul_le_mul_right _ hl
  have m2 : xs.length * (Cf n + 2) ≤ 6 * (Cf n + 2) := Nat.mul_le_mul_right _ hl
  have h0 : Bs 100 0 (.str "case") := bs_str (by decide +kernel)
  refine ⟨by rw [Fm.dr]; exact ⟨ho, hf, hl, hd⟩, by rw [Fm.ok]; exact ⟨ho, h1⟩, by rw [Fm.wf]; exact ⟨hf, h2⟩, by rw [Fm.hasInp, h3], by rw [Fm.hgt]; omega, by rw [Fm.rds]; exact h5, ?_, ?_⟩
  · rw [Fm.sz]; show _ ≤ 6 * Sf n + 1; omega
  · rw [Fm.d]
    show Bs (6 * (Cf n + 2) + 300) (2 * (n + 1) + 3) _
    cases g with
    | mn w =>
      have z : Bs 100 0 (.str w.s) := by cases w <;> exact bs_str (by decide +kernel)
      exact (bs_cons (z.mono (Nat.le_refl _) (Nat.zero_le _)) (bs_cons (h := 2 * n + 4) h7 (bs_nil _))).mono (by omega) (by omega)
    | tm i =>
      have z : Bs 100 0 (.str "times") := bs_str (by decide +kernel)
      exact (bs_cons (h := 2 * n + 3) (z.mono (Nat.le_refl _) (Nat.zero_le _)) (bs_cons (h := 2 * n + 3) ((bs_num ho).mono (Nat.le_refl _) (Nat.zero_le _)) h7)).mono (by omega) (by omega)
    | ov =>
      have z : Bs 100 0 (.str "over") := bs_str (by decide +kernel)
      exact (bs_cons (h := 2 * n + 3) (z.mono (Nat.le_refl _) (Nat.zero_le _)) h7).mono (by omega) (by omega)
    | cs s =>
      obtain ⟨a, b, c, d, rfl⟩ := hf
      have z : Bs 100 0 (.str s.s) := by cases s <;> exact bs_str (by decide +kernel)
      have ga := h a (by simp)
      obtain ⟨_, _, _, _, _, _, _, h8⟩ := gfA (n := n) (p := p) (xs := [b, c, d]) fun x hx => h x (List.mem_cons_of_mem _ hx)
      have h9 := bs_cons (h := 2 * n + 3) (h0.mono (Nat.le_refl _) (Nat.zero_le _)) (bs_cons (h := 2 * n + 3) ga.bs (bs_cons (h := 2 * n + 3) (z.mono (Nat.le_refl _) (Nat.zero_le _)) h8))
      have e : hdD (.cs s) (fdA [a, b, c, d]) = .tup (.str "case" :: a.d :: .str s.s :: fdA [b, c, d]) := by simp only [fdA, hdD]
      rw [e]
      refine h9.mono ?_ (by omega)
      show _ ≤ 6 * (Cf n + 2) + 300
      simp only [List.length_cons, List.length_nil]
      omega
mutual
theorem dr_gf {p : Str} : ∀ f : Fm, f.dr p → Gf p f.hgt f
  | .num i, h => by rw [Fm.dr] at h; rw [Fm.hgt]; exact gf_num h
  | .emp, h => by rw [Fm.hgt]; exact gf_emp
  | .inp, h => by rw [Fm.dr] at h; exact h.elim
  | .nm c r, h => by rw [Fm.dr] at h; rw [Fm.hgt]; exact gf_nm h
  | .rg w c a b, h => by rw [Fm.dr] at h; rw [Fm.hgt]; exact gf_rg h
  | .node g xs, h => by
    rw [Fm.dr] at h
    rw [Fm.hgt]
    exact gf_node (drA_gf xs h.2.2.2) h.2.2.1 h.2.1 h.1
theorem drA_gf {p : Str} : ∀ xs : List Fm, drA p xs → ∀ x ∈ xs, Gf p (hgtA xs) x
  | x :: xs, h, y, hy => by
    rw [drA] at h
    rw [hgtA]
    rcases List.mem_cons.mp hy with e | hy
    · rw [e]; exact (dr_gf x h.1).mono (Nat.le_max_left _ _)
    · exact (drA_gf xs h.2 y hy).mono (Nat.le_max_right _ _)
end
mutual
theorem wr_dr {p : Str} : ∀ (f : Fm) (os : List Rd), f.dr p → SameS os f.rds → (∀ o ∈ os, RdP p o) → (f.wr os).dr p
  | .nm c r, os, h, s, k => by
    rw [Fm.rds] at s
    obtain ⟨y, rfl, e⟩ := sames1 s
    cases y with
    | nm c r => rw [Fm.wr, wrNm, Fm.dr]; exact k _ List.mem_cons_self
    | rg c a b => cases e
  | .rg w c a b, os, h, s, k => by
    rw [Fm.rds] at s
    obtain ⟨y, rfl, e⟩ := sames1 s
    cases y with
    | nm c r => cases e
    | rg c a b => rw [Fm.wr, wrRg, Fm.dr]; exact k _ List.mem_cons_self
  | .node g xs, os, h, s, k => by
    rw [Fm.rds] at s
    rw [Fm.dr] at h
    rw [Fm.wr, Fm.dr]
    exact ⟨h.1, Hd.fit_len (wrA_len xs os).symm h.2.1, by rw [wrA_len]; exact h.2.2.1, wrA_dr xs os h.2.2.2 s k⟩
  | .num i, os, h, _, _ => by rw [Fm.wr]; exact h
  | .emp, os, h, _, _ => by rw [Fm.wr]; exact h
  | .inp, os, h, _, _ => by rw [Fm.wr]; exact h
theorem wrA_dr {p : Str} : ∀ (xs : List Fm) (os : List Rd), drA p xs → SameS os (rdsA xs) → (∀ o ∈ os, RdP p o) → drA p (wrA xs os)
  | [], os, _, _, _ => by rw [wrA, drA]; trivial
  | x :: xs, os, h, s, k => by
    rw [rdsA] at s
    rw [drA] at h
    obtain ⟨s1, s2⟩ := s.split
    rw [wrA, drA]
    exact ⟨wr_dr x _ h.1 s1 fun o ho => k o (List.mem_of_mem_take ho), wrA_dr xs _ h.2 s2 fun o ho => k o (List.mem_of_mem_drop ho)⟩
end
theorem Gf.wr {p : Str} {n : Nat} {f : Fm} (h : Gf p n f) {os : List Rd} (s : SameS os f.rds) (k : ∀ o ∈ os, RdP p o) : Gf p n (f.wr os) := by
  have z := dr_gf _ (wr_dr f os h.dr s k)
  rw [wr_hgt] at z
  exact z.mono h.hgt
def WholeF (p : Str) (f : Fm) : Prop := f = .inp ∧ p ≠ "foot" ∨ Gf p 4 f
theorem WholeF.wr {p : Str} {f : Fm} (h : WholeF p f) {os : List Rd} (s : SameS os f.rds) (k : ∀ o ∈ os, RdP p o) : WholeF p (f.wr os) := by
  rcases h with ⟨rfl, hp⟩ | h
  · rw [Fm.wr]; exact .inl ⟨rfl, hp⟩
  · exact .inr (h.wr s k)
theorem Gf.sm {p : Str} {n : Nat} {f : Fm} (h : Gf p n f) (hn : n ≤ 5) : f.Sm (n + 1) := by
  refine ⟨h.wf, Nat.lt_succ_of_le h.hgt, Nat.le_trans h.sz (Nat.le_trans (Sf_mono hn) (by decide))⟩
theorem Fm.Sm.mono {m n : Nat} {f : Fm} (h : f.Sm m) (e : m ≤ n) : f.Sm n := ⟨h.wf, Nat.lt_of_lt_of_le h.hgt e, h.sz⟩
def tDr2 (P : Str → D → Prop) : TF := fun rs Q => ∃ p : Str, rs = [.bag, .dt (.str p)] ∧ IsPl p ∧ ∀ x, P p x → Q (.dt x)
theorem mono_tDr2 {P : Str → D → Prop} : MonoF (tDr2 P) := fun rs Q Q' ⟨p, e, h, q⟩ w => ⟨p, e, h, fun x hx => w _ (q x hx)⟩
theorem len_tDr2 {P : Str → D → Prop} : ∀ rs Q, tDr2 P rs Q → rs.length = 2 := fun rs Q ⟨p, e, _⟩ => by rw [e]; rfl
theorem pick {xs : List D} {d : Int} (h0 : 0 ≤ d) (h1 : d < (xs.length : Int)) : ∃ x, atI xs d = some x ∧ x ∈ xs := by
  have hd : d.toNat < xs.length := by omega
  exact ⟨xs[d.toNat], atI_of (by omega) (List.getElem?_eq_getElem hd), List.getElem_mem hd⟩
def PartP (x : D) : Prop := isPart x = true ∧ Bs 300 1 x ∧ sm100 x = true
theorem partP_lost : PartP (.tup [.str "lost"]) := ⟨rfl, (bs_cons (bs_str (by decide +kernel)) (bs_nil 0)).mono (by decide) (by decide), rfl⟩
theorem partP_at {i : Int} (h : 0 ≤ i) (h2 : i < 100) : PartP (.tup [.str "at", .int i]) := by
  refine ⟨?_, (bs_cons (bs_str (by decide +kernel)) (bs_cons (bs_i (by omega)) (bs_nil 0))).mono (by decide) (by decide), by show (true && (decide (i.natAbs < 100) && true)) = true; rw [decide_eq_true (by omega)]; rfl⟩
  show (false || (true && decide (0 ≤ i))) = true
  rw [decide_eq_true h]; rfl
theorem partP_by {i : Int} (h : i.natAbs < 100) : PartP (.tup [.str "by", .int i]) :=
  ⟨rfl, (bs_cons (bs_str (by decide +kernel)) (bs_cons (bs_i h) (bs_nil 0))).mono (by decide) (by decide), by show (true && (decide (i.natAbs < 100) && true)) = true; rw [decide_eq_true h]; rfl⟩
theorem or_t {a b : Bool} (h : a = true) : (a || b) = true := by rw [h]; rfl
structure RowP (p : Str) (r : D) : Prop where
  ok : isRow r = true
  fits : (Rd.nm .non r).fits p = true
  bs : Bs 300 1 r
  sm : sm100 r = true
theorem rdp_nm {p : Str} {c r : D} (hc : PartP c) (hr : RowP p r) : RdP p (.nm c r) := by
  refine ⟨⟨hc.1, hr.ok⟩, hr.fits, ?_, by show (true && (sm100 c && (sm100 r && true))) = true; rw [hc.2.2, hr.sm]; rfl⟩
  exact (bs_cons (h := 1) ((bs_str (by decide +kernel) : Bs 100 0 (.str "name")).mono (Nat.le_refl _) (by decide)) (bs_cons (h := 1) hc.2.1 (bs_cons (h := 1) hr.bs (bs_nil 1)))).mono (by decide) (by decide)
theorem rdp_rg {p : Str} {c a b : D} (hc : PartP c) (ha : a = .non ∨ ∃ i : Int, a = .int i ∧ i.natAbs < 100) (hb : b = .non ∨ ∃ i : Int, b = .int i ∧ i.natAbs < 100) (hp : p = "body" ∨ p = "foot" ∧ a = .non ∧ b = .non) : RdP p (.rg c a b) := by
  have lim : ∀ {a : D}, (a = .non ∨ ∃ i : Int, a = .int i ∧ i.natAbs < 100) → isLim a = true ∧ Bs 100 0 a ∧ sm100 a = true := by
    intro a h
    rcases h with rfl | ⟨i, rfl, hi⟩
    · exact ⟨rfl, bsB_ok (by decide +kernel), rfl⟩
    · exact ⟨rfl, bs_i hi, decide_eq_true hi⟩
  obtain ⟨a1, a2, a3⟩ := lim ha
  obtain ⟨b1, b2, b3⟩ := lim hb
  refine ⟨⟨hc.1, a1, b1⟩, ?_, ?_, by show (true && (sm100 c && (sm100 a && (sm100 b && true)))) = true; rw [hc.2.2, a3, b3]; rfl⟩
  · rcases hp with rfl | ⟨rfl, rfl, rfl⟩
    · unfold Rd.fits; exact or_t (a := decide (("body" : Str) = "body")) (decide_eq_true rfl)
    · rfl
  · exact (bs_cons (h := 1) ((bs_str (by decide +kernel) : Bs 100 0 (.str "rows")).mono (Nat.le_refl _) (by decide)) (bs_cons (h := 1) hc.2.1 (bs_cons (h := 1) (a2.mono (Nat.le_refl _) (by decide)) (bs_cons (h := 1) (b2.mono (Nat.le_refl _) (by decide)) (bs_nil 1))))).mono (by decide) (by decide)
theorem rowP_head {p : Str} : RowP p (.tup [.str "head"]) := ⟨rfl, by unfold Rd.fits; exact or_t (a := decide (rowW (.tup [.str "head"]) = "head")) (decide_eq_true rfl), (bs_cons (bs_str (by decide +kernel)) (bs_nil 0)).mono (by decide) (by decide), rfl⟩
theorem rowP_by {i : Int} (h : i.natAbs < 100) : RowP "body" (.tup [.str "by", .int i]) := ⟨rfl, rfl, (bs_cons (bs_str (by decide +kernel)) (bs_cons (bs_i h) (bs_nil 0))).mono (by decide) (by decide), by show (true && (decide (i.natAbs < 100) && true)) = true; rw [decide_eq_true h]; rfl⟩
theorem rowP_foot : RowP "foot" (.tup [.str "foot"]) := ⟨rfl, rfl, (bs_cons (bs_str (by decide +kernel)) (bs_nil 0)).mono (by decide) (by decide), rfl⟩
theorem rowP_last {i : Int} (h : 0 ≤ i) (h2 : i < 100) : RowP "foot" (.tup [.str "last", .int i]) := by
  refine ⟨?_, rfl, (bs_cons (bs_str (by decide +kernel)) (bs_cons (bs_i (by omega)) (bs_nil 0))).mono (by decide) (by decide), by show (true && (decide (i.natAbs < 100) && true)) = true; rw [decide_eq_true (by omega)]; rfl⟩
  show (false || (true && decide (0 ≤ i))) = true
  rw [decide_eq_true h]; rfl
theorem of_drawn {G : Fm → Prop} : ∀ {ys : List D}, (∀ y ∈ ys, ∃ f, y = Fm.d f ∧ G f) → ∃ fs : List Fm, ys = fdA fs ∧ (∀ f ∈ fs, G f) ∧ fs.length = ys.length
  | [], _ => ⟨[], by rw [fdA], fun f hf => (List.not_mem_nil hf).elim, rfl⟩
  | y :: ys, h => by
    obtain ⟨fs, e, h1, h2⟩ := of_drawn fun z hz => h z (List.mem_cons_of_mem _ hz)
    obtain ⟨f, rfl, hf⟩ := h y List.mem_cons_self
    refine ⟨f :: fs, by rw [fdA, e], fun g hg => ?_, by rw [List.length_cons, List.length_cons, h2]⟩
    rcases List.mem_cons.mp hg with rfl | hg
    · exact hf
    · exact h1 g hg
theorem WholeF.sm {p : Str} {f : Fm} (h : WholeF p f) : f.Sm 5 := by
  rcases h with ⟨rfl, _⟩ | h
  · exact ⟨by rw [Fm.wf]; trivial, by rw [Fm.hgt]; decide, by rw [Fm.sz]; decide⟩
  · exact h.sm (by decide)
theorem WholeF.ok {p : Str} {f : Fm} (h : WholeF p f) : f.ok := by
  rcases h with ⟨rfl, _⟩ | h
  · rw [Fm.ok]; trivial
  · exact h.ok
theorem WholeF.rds {p : Str} {f : Fm} (h : WholeF p f) : ∀ r ∈ f.rds, RdP p r := by
  rcases h with ⟨rfl, _⟩ | h
  · rw [Fm.rds]; exact fun r hr => (List.not_mem_nil hr).elim
  · exact h.rds
theorem WholeF.sz {p : Str} {f : Fm} (h : WholeF p f) : f.rds.length ≤ 1555 := by
  rcases h with ⟨rfl, _⟩ | h
  · rw [Fm.rds]; decide
  · exact Nat.le_trans (rds_sz f) h.sz
theorem WholeF.bs {p : Str} {f : Fm} (h : WholeF p f) : Bs 4000000 20 f.d := by
  rcases h with ⟨rfl, _⟩ | h
  · rw [Fm.d]; exact (bs_cons (bs_str (by decide +kernel)) (bs_nil 0)).mono (by decide) (by decide)
  · exact h.bs.mono (by decide) (by decide)
theorem WholeF.fits {p : Str} {f : Fm} (hp : IsPl p) (h : WholeF p f) : f.fits p = true := by
  rcases h with ⟨rfl, np⟩ | h
  · cases hp with
    | head => rfl
    | body => rfl
    | foot => exact absurd rfl np
  · have e : f.fits p = (!f.hasInp && f.rds.all fun r => r.fits p) := by
      cases f <;> first | rfl | (exact absurd h.ni (by rw [Fm.hasInp]; decide))
    rw [e, h.ni, List.all_eq_true.mpr fun r hr => (h.rds r hr).fits]; rfl
end DL
set_option Elab.async false
set_option linter.all false
set_option maxRecDepth 100000
set_option maxHeartbeats 4000000
namespace DL
open PySem PySem.Spec PyProof.Rows L2
end DL
set_option Elab.async false
set_option linter.all false
set_option maxRecDepth 100000
set_option maxHeartbeats 4000000
namespace DL
open PySem PySem.Spec PyProof.Rows L2
section
variable {K : PySem.W.Frag} {B : Bg K} {H0 G0 H H' G G' : Hp} {σ : L2.St} {δ δ' : List Sl}
def mixG (G G' : Hp) : Hp := fun a => match G a with
  | some o => some o
  | none => match G' a with
    | some (.ext f) => some (.ext f)
    | _ => none
theorem mixG_l {a : Addr} {o : HO} (h : G a = some o) : mixG G G' a = some o := by unfold mixG; rw [h]
theorem mixG_cases {a : Addr} {o : HO} (h : mixG G G' a = some o) : G a = some o ∨ (G a = none ∧ G' a = some o ∧ ∃ f, o = .ext f) := by
  unfold mixG at h
  split at h
  · rename_i o' e; cases h; exact .inl e
  · rename_i e
    split at h
    · rename_i f e2; cases h; exact .inr ⟨e, e2, f, rfl⟩
    · cases h
theorem mixG_none {a : Addr} (h : G a = none) (n : ∀ f, G' a ≠ some (.ext f)) : mixG G G' a = none := none_of fun o e => by
  rcases mixG_cases e with z | ⟨_, z, f, rfl⟩
  · rw [h] at z; cases z
  · exact n f z
theorem same_mixG (G G' : Hp) : Same G (mixG G G') := fun _ _ e => mixG_l e
theorem OwnAt.noext {a : Addr} {s : Sl} (h : OwnAt K H G a s) : ∃ o, H a = some o ∧ ∀ f, o ≠ .ext f := by
  cases s <;> first | exact h.elim | skip
  · obtain ⟨vs, h1, _⟩ := h; exact ⟨_, h1, fun f z => by cases z⟩
  · obtain ⟨vs, _, h1, _⟩ := h; exact ⟨_, h1, fun f z => by cases z⟩
  · obtain ⟨vs, _, h1, _⟩ := h; exact ⟨_, h1, fun f z => by cases z⟩
  · obtain ⟨_, dx, vs, _, h1, _⟩ := h; exact ⟨_, h1, fun f z => by cases z⟩
  · obtain ⟨_, vs, h1, _⟩ := h; exact ⟨_, h1, fun f z => by cases z⟩
theorem Rel.thaw (R : Rel K B H0 G0 H σ δ G) (R' : Rel K B H0 G0 H' σ δ' G') (sG : Same G G') (fr : Fra B H H') : ∃ G2, Same G G2 ∧ Rel K B H0 G0 H' σ δ G2 := by
  have sm := same_mixG G G'
  have noX : ∀ {i : Nat} {a : Addr}, Own σ δ i a → ∀ f, G' a ≠ some (.ext f) := fun {i a} oa f z => by
    obtain ⟨ev, s, es, io⟩ := oa
    rcases R.sl i s es with q | ⟨v, ev2, ok⟩
    · cases s <;> first | exact Bool.noConfusion (show false = true from q) | exact Bool.noConfusion (show false = true from io)
    · obtain ⟨a2, ea, ga, h⟩ := ok.own io
      rw [ev] at ev2; cases ev2
      cases ea
      obtain ⟨o, ho, no⟩ := h.noext
      have h1 := fr _ _ ho (R.own i _ ⟨ev, s, es, io⟩).2.2
      rw [R'.sub _ _ z] at h1
      cases h1
      exact no f rfl
  have own0 : ∀ {i : Nat} {a : Addr}, Own σ δ i a → mixG G G' a = none := fun {i a} oa => mixG_none (R.own i a oa).2.1 (noX oa)
  refine ⟨mixG G G', sm, fun a o e => ?_, R.g0.trans sm, R'.ent, R.len, fun i s e => ?_, R.sep, fun i a oa => ⟨(R.own i a oa).1, own0 oa, (R.own i a oa).2.2⟩, fun b c e => ?_, fun a o e => ?_, R'.sz, R.hd.up sm fun a o e => ?_⟩
  · rcases mixG_cases e with z | ⟨_, z, _⟩
    · exact R'.sub _ _ (sG _ _ z)
    · exact R'.sub _ _ z
  · rcases R.sl i s e with z | ⟨v, ev, ok⟩
    · exact .inl z
    · refine .inr ⟨v, ev, ?_⟩
      cases io : s.isOwn with
      | false => cases s <;> first | exact ok | exact Dd.mono sm _ _ ok | exact xcp_mono sm ok | exact fn_mono sm ok | cases io
      | true =>
        obtain ⟨a, ea, ga, h⟩ := ok.own io
        have oa : Own σ δ i a := ⟨ea ▸ ev, s, e, io⟩
        have h2 := h.up (fun o q => fr a o q (R.own i a oa).2.2) sm
        have g2 := own0 oa
        cases s <;> first | exact ⟨a, ea, g2, h2⟩ | cases io
  · have h := R'.bag b c e
    have k := R.bag b c e
    have n2 : mixG G G' b = none := mixG_none k.gn fun f z => by rw [h.gn] at z; cases z
    cases c with
    | bag c =>
      obtain ⟨x, m, i, ns, h1, h2, h3, h4, h5, h6, h7, h8, h9⟩ := h
      obtain ⟨x', m', i', ns', k1, k2, k3, k4, k5, k6, k7, k8, k9⟩ := k
      exact ⟨x, m, i, ns', h1, n2, rdS sm k3, h4, k5, h6, h7, h8, k9⟩
    | cnt =>
      obtain ⟨n, h1, h2⟩ := h
      exact ⟨n, h1, n2⟩
    | tab q =>
      obtain ⟨⟨ps, h1, h2, h3⟩, _⟩ := h
      refine ⟨⟨ps, h1, h2, fun pos cv z => ?_⟩, n2⟩
      obtain ⟨c, e1, e2⟩ := h3 pos cv z
      refine ⟨c, e1, ?_⟩
      cases eg : G c with
      | some o =>
        have z2 := sG _ _ eg
        rw [e2] at z2; cases z2
        exact mixG_l eg
      | none =>
        unfold mixG
        rw [eg, e2]
        rfl
  · rcases mixG_cases e with z | ⟨_, z, _⟩
    · exact R.gn _ _ z
    · exact R'.gn _ _ z
  · rcases mixG_cases e with z | ⟨_, z, _⟩
    · exact .inl ⟨_, z⟩
    · rcases R'.gn _ _ z with y | y
      · exact .inl ⟨_, R.g0 _ _ y⟩
      · exact .inr y
end
def tdThawT (t : TDT) : TDT := fun δ Q => t δ fun b _ => Q b δ
section
variable {X : Cx} {e : Expr} {t : TD} {u : TDT}
theorem pdt_thaw (h : PDT X e u) : PDT X e (tdThawT u) := by
  refine ⟨PT.weak h.pt fun σ H Q ⟨B, H0, G0, δ, G, R, q⟩ => ⟨B, H0, G0, δ, G, R, h.mono _ _ _ q fun b δ' q H' G' R' s' f' => ?_⟩, fun δ Q Q' q w => h.mono _ _ _ q fun b δ' q => w _ _ q⟩
  obtain ⟨G2, s2, R2⟩ := R.thaw R' s' f'
  exact q H' G2 R2 s2 f'
end
theorem pds_never {X : Cx} {st : Stmt} : PDS X st (fun _ _ => False) := ⟨⟨fun pins s σ H D I h => by obtain ⟨_, _, _, _, _, _, h⟩ := h; exact h.elim⟩, fun _ _ _ _ h => h⟩
def tdIsi2 (T U : Ty) (ta : TD) : TD := fun δ Q => ta δ fun r δ' => match fz r with
  | some d => d.isIns = false ∧ Q (.dt (.bl (isTy T d || isTy U d))) δ'
  | none => False
section
variable {X : Cx} {e : Expr} {ta : TD} {p pos : Pos}
theorem pd_isi2 (T U : Ty) {x y : Str} {p2 p3 p4 : Pos} {kt : Nat} (hg : Gl X "isinstance") (hm : X.mg "isinstance" = none) (hgx : Gl X x) (hmx : X.mg x = none) (hvx : bootBuiltins x = some (.type T.name)) (hgy : Gl X y) (hmy : X.mg y = none) (hvy : bootBuiltins y = some (.type U.name)) (h : PD X e ta)
    (hn : x ≠ "__name__" := by decide) (hdx : (x == ("__debug__" : Str)) = false := by decide) (hny : y ≠ "__name__" := by decide) (hdy : (y == ("__debug__" : Str)) = false := by decide)
    (hs0 : starEach [.Name y p3] X.env = (false, eval (.Name y p3) X.env) :: starEach [] X.env := by rfl) (hs1 : starEach [.Name x p2, .Name y p3] X.env = (false, eval (.Name x p2) X.env) :: starEach [.Name y p3] X.env := by rfl)
    (hs2 : starEach [.Tuple [.Name x p2, .Name y p3] kt p4] X.env = (false, eval (.Tuple [.Name x p2, .Name y p3] kt p4) X.env) :: starEach [] X.env := by rfl)
    (he : starEach [e, .Tuple [.Name x p2, .Name y p3] kt p4] X.env = (false, eval e X.env) :: starEach [.Tuple [.Name x p2, .Name y p3] kt p4] X.env := by rfl) (hpl : (backTo pos (starEach [.Tuple [.Name x p2, .Name y p3] kt p4] X.env)).any (·.1) = false := by rfl) :
    PD X (.Call (.Name "isinstance" p) [e, .Tuple [.Name x p2, .Name y p3] kt p4] [] pos) (tdIsi2 T U ta) := by
  have rule := pe_callB (X := X) (p := p) (pos := pos) call_isiT hg hm boot_isi' (pa_cons h.pe (pa_cons (pe_tup (x1 := kt) (pos := p4) (pa_cons (pe_bltn (pos := p2) (v := .ty T.name) hgx hmx hvx rfl hn hdx) (pa_cons (pe_bltn (pos := p3) (v := .ty U.name) hgy hmy hvy rfl hny hdy) pa_nil hs0) hs1)) pa_nil hs2) he) (by decide) (by decide) he hpl
  refine ⟨PE.weak rule fun σ H Q ⟨B, H0, G0, δ, G, R, q⟩ => ?_, fun δ Q Q' q w => h.mono _ _ _ q fun r δ' q => ?_⟩
  · refine ev_data h.mono (kk := fun d δ' => d.isIns = false ∧ Aft X.K B H0 G0 H σ G Q (.dt (.bl (isTy T d || isTy U d))) δ') R q fun d δ1 v H1 G1 R1 s1 f1 hd hq => ?_
    refine ⟨(by show (2 : Nat) ≤ sizeLine; decide), fun tp ht => ?_⟩
    have R2 := R1.laidO (o := .tup [.ty T.name, .ty U.name]) ht (by show (2 : Nat) ≤ sizeLine; decide)
    refine ⟨v, tp, _, _, _, isTy T d || isTy U d, rfl, upd_same, .cons (.ty _) (.cons (.ty _) .nil), tyX_of R2 hd hq.1, kitAny_cons (kit_ty (kit_isTy T d hq.1)) (fun e1 => kitAny_cons (kit_ty (kit_isTy U d hq.1)) (fun e2 => ?_) fun e2 => ?_) fun e1 => ?_, aft_here R2 (.bl _) (aftUp hq.2 s1 (f1.trans (Fra.upd ht)))⟩
    · rw [e1, e2]; exact kitAny_nil
    · rw [e2]; exact Bool.or_true _
    · rw [e1]; rfl
  · cases e : fz r with
    | none => rw [e] at q; exact q
    | some d => rw [e] at q; exact ⟨q.1, w _ _ q.2⟩
end
def zipD : List D → List D → List D
  | a :: as, b :: bs => .tup [a, b] :: zipD as bs
  | _, _ => []
theorem zipD_get : ∀ (as bs : List D) (i : Nat) (d : D), (zipD as bs)[i]? = some d → ∃ x y, as[i]? = some x ∧ bs[i]? = some y ∧ d = .tup [x, y]
  | a :: as, b :: bs, 0, d, e => by cases e; exact ⟨a, b, rfl, rfl, rfl⟩
  | a :: as, b :: bs, i + 1, d, e => by
    obtain ⟨x, y, h1, h2, h3⟩ := zipD_get as bs i d (by simpa [zipD] using e)
    exact ⟨x, y, by simpa using h1, by simpa using h2, h3⟩
  | [], _, _, _, e => by simp [zipD] at e
  | _ :: _, [], _, _, e => by simp [zipD] at e
theorem zipD_len : ∀ (as bs : List D), (zipD as bs).length = min as.length bs.length
  | a :: as, b :: bs => by show (zipD as bs).length + 1 = min (as.length + 1) (bs.length + 1); rw [zipD_len as bs]; omega
  | [], bs => by show 0 = min 0 _; omega
  | _ :: _, [] => by show 0 = min _ 0; omega
theorem itOk_zipT {K : PySem.W.Frag} {G : Hp} {a b : Addr} {vs ws : List V} {xs ys : List D} (h1 : SqD K G a vs) (h2 : DdA K G vs xs) (h3 : SqD K G b ws) (h4 : DdA K G ws ys) : ItOk K G (RZ.ItzT K a b) (zipD xs ys) := by
  intro B H0 G0 H σ δ G2 R sG
  have hq1 : SqT K H a vs := sameT R.sub (sameD sG h1)
  have hq2 : SqT K H b ws := sameT R.sub (sameD sG h3)
  refine ⟨fun i d e => ?_, ⟨vs, ws, hq1, hq2, ?_⟩⟩
  · obtain ⟨x0, y0, e1, e2, rfl⟩ := zipD_get xs ys i d e
    obtain ⟨v, ev, hv⟩ := h2.get e1
    obtain ⟨w, ew, hw⟩ := h4.get e2
    refine ⟨⟨vs, ws, v, w, hq1, hq2, ev, ew⟩, fun x H3 y => ?_⟩
    obtain ⟨T, x1, y1, rfl, nT, rfl, z1, z2⟩ := y
    have e3 := z1 vs hq1
    have e4 := z2 ws hq2
    rw [ev] at e3; cases e3
    rw [ew] at e4; cases e4
    obtain ⟨R3, s3⟩ := R.laidG (o := .tup [v, w]) nT (by show (2 : Nat) ≤ sizeLine; decide)
    exact ⟨_, R3, s3, Fra.upd nT, .tup (.inl upd_same) (.cons (Dd.mono (sG.trans s3) _ _ hv) (.cons (Dd.mono (sG.trans s3) _ _ hw) .nil))⟩
  · rw [zipD_len, h2.len, h4.len]; omega
end DL
set_option Elab.async false
set_option linter.all false
set_option maxRecDepth 100000
set_option maxHeartbeats 4000000
namespace DL
open PySem PySem.Spec PyProof.Rows L2
def lk (f : Str) (ns : List Str) (ds : List D) : Option D := (ns.zip ds).lookup f
theorem lk_ok {K : PySem.W.Frag} {G : Hp} {f : Str} : ∀ {ns : List Str} {xs : List V} {ds : List D} {d : D}, DdA K G xs ds → lk f ns ds = some d → ∃ v, (ns.zip xs).lookup f = some v ∧ Dd K G v d
  | [], _, _, _, _, e => by simp [lk] at e
  | n :: ns, _, [], _, h, e => by simp [lk] at e
  | n :: ns, _, d0 :: ds, d, h, e => by
    cases h with
    | @cons v vs _ _ h1 h2 =>
      unfold lk at e
      rw [List.zip_cons_cons, List.lookup_cons] at e
      rw [List.zip_cons_cons, List.lookup_cons]
      cases c : (f == n) with
      | true => rw [c] at e; cases e; exact ⟨v, rfl, h1⟩
      | false => rw [c] at e; exact lk_ok h2 e
theorem lk_none {f : Str} : ∀ {ns : List Str} {xs : List V}, f ∉ ns → (ns.zip xs).lookup f = none
  | [], _, _ => by simp
  | n :: ns, [], _ => by simp
  | n :: ns, x :: xs, h => by
    rw [List.zip_cons_cons, List.lookup_cons]
    have c : (f == n) = false := by
      rw [beq_eq_false_iff_ne]
      intro z
      exact h (z ▸ List.mem_cons_self)
    rw [c]
    exact lk_none fun z => h (List.mem_cons_of_mem _ z)
def tdFld (C : Addr) (f : Str) (t : TD) : TD := fun δ Q => t δ fun r δ' => match fz r with
  | some (.ins C' ns vs) => C' = C ∧ ∃ d, lk f ns vs = some d ∧ Q (.dt d) δ'
  | _ => False
section
variable {X : Cx} {e o : Expr} {es : List Expr} {t : TD} {u : TDA} {f m : Str} {C : Addr} {pos apos p : Pos}
theorem pd_fld (c : Cls X.K C) (n : NoAttr X.K C f) (h : PD X e t) (hb : attributeBase e f X.env (eval e X.env) = eval e X.env := by rfl) : PD X (.Attribute e f pos) (tdFld C f t) := by
  refine ⟨PE.weak (pe_fld h.pe hb) fun σ H Q ⟨B, H0, G0, δ, G, R, q⟩ => ?_, fun δ Q Q' q w => h.mono _ _ _ q fun r δ' q => ?_⟩
  · refine ev_data h.mono (kk := fun d δ' => match d with
      | .ins C' ns vs => C' = C ∧ ∃ d, lk f ns vs = some d ∧ Aft X.K B H0 G0 H σ G Q (.dt d) δ'
      | _ => False) R (h.mono _ _ _ q fun r δ' q => ?_) fun d δ1 v H1 G1 R1 s1 f1 hd hq => ?_
    · cases er : fz r with
      | none => rw [er] at q; exact q
      | some d => rw [er] at q; cases d <;> first | exact q | exact q.elim
    · split at hq
      · obtain ⟨rfl, d, hl, q2⟩ := hq
        cases hd with
        | @ins a _ dx _ xs _ h0 h1 h2 =>
          obtain ⟨v, e2, hv⟩ := lk_ok h2 hl
          exact ⟨a, _, dx, _, v, rfl, R1.sub _ _ h1, c, n, e2, aft_here R1 hv (aftUp q2 s1 f1)⟩
      · exact hq.elim
  · cases er : fz r with
    | none => rw [er] at q; exact q
    | some d =>
      rw [er] at q
      cases d <;> first | exact q.elim | skip
      obtain ⟨h1, d, h2, h3⟩ := q
      exact ⟨h1, d, h2, w _ _ h3⟩
structure MthX (P : Program) (w : World) (K : PySem.W.Frag) (mg : Str → Option Value) (base : Heap) (k : Nat) (C : Addr) (m : Str) (n : Nat) (t : TF) : Prop where
  ex : ∃ f fd ps, FnOk P w K mg base CX0 k f fd ps (spD K n t) ∧ Cls K C ∧ Meth K C m f ∧ Binds K fd ps []
  mono : MonoF t
  len : ∀ rs Q, t rs Q → rs.length = n
def tdMeth (C : Addr) (m : Str) (t : TF) (to : TD) (u : TDA) : TD := fun δ Q => to δ fun r δ1 => match fz r with
  | some (.ins C' ns vs) => C' = C ∧ m ∉ ns ∧ u δ1 fun rs δ2 => t (.dt (.ins C' ns vs) :: rs) (fun r => Q r δ2)
  | _ => False
theorem tdMeth_mono {t' : TF} {k n : Nat} (M : MthX X.prog X.w X.K X.mg X.base k C m n t') (ho : MonoD t) (hu : MonoA u) : MonoD (tdMeth C m t' t u) := fun δ Q Q' q w => ho _ _ _ q fun r δ' q => by
  cases er : fz r with
  | none => rw [er] at q; exact q
  | some d =>
    rw [er] at q
    cases d <;> first | exact q.elim | skip
    obtain ⟨h1, h2, h3⟩ := q
    exact ⟨h1, h2, hu _ _ _ h3 fun rs δ2 q => M.mono _ _ _ q fun r q => w _ _ q⟩
theorem tdMeth_run {t' : TF} {k n : Nat} (M : MthX X.prog X.w X.K X.mg X.base k C m n t') (ho : MonoD t) (hu : MonoA u) : ∀ σ H Q, tyE X.K (tdMeth C m t' t u) σ H Q → tMeth C m (spD X.K n t') [] E0 (tyE X.K t) (tyA X.K u) σ H Q := by
  intro σ H Q ⟨B, H0, G0, δ, G, R, q⟩
  refine ev_data ho (kk := fun d δ1 => match d with
    | .ins C' ns vs => C' = C ∧ m ∉ ns ∧ u δ1 fun rs δ2 => t' (.dt (.ins C' ns vs) :: rs) (fun r => Aft X.K B H0 G0 H σ G Q r δ2)
    | _ => False) R (ho _ _ _ q fun r δ' q => ?_) fun d δ1 v H1 G1 R1 s1 f1 hd hq => ?_
  · cases er : fz r with
    | none => rw [er] at q; exact q
    | some d => rw [er] at q; cases d <;> first | exact q | exact q.elim
  · split at hq
    · rename_i ns ds
      obtain ⟨rfl, hm, q2⟩ := hq
      cases hd with
      | @ins a _ dx _ xs _ h0 h1 h2 =>
        refine ⟨a, dx, _, rfl, R1.sub _ _ h1, lk_none hm, B, H0, G0, δ1, G1, R1, hu _ _ _ q2 fun rs δ2 q3 vs H2 G2 R2 s2 f2 oks => ?_⟩
        show spD X.K n t' (.ref a :: (vs ++ [])) H2 Q E0
        rw [List.append_nil]
        have hd2 : Dd X.K G2 (.ref a) (.ins _ ns ds) := Dd.mono s2 _ _ (.ins h0 h1 h2)
        refine ⟨?_, B, G2, .dt (.ins _ ns ds) :: rs, R2.sub, R2.bag, R2.sz, ⟨hd2, oks⟩, M.mono _ _ _ q3 fun r q v H' G' k => ?_⟩
        · have z := M.len _ _ q3
          rw [List.length_cons] at z ⊢
          rw [oks.len]; exact z
        · obtain ⟨R3, ok⟩ := R2.call k
          exact q v H' G' R3 ((s1.trans s2).trans k.gg) ((f1.trans f2).trans k.fra) ok
    · exact hq.elim
theorem pd_meth {t' : TF} {k n : Nat} {pl : Sem Bool} (M : MthX X.prog X.w X.K X.mg X.base k C m n t') (hr : Room k X.A) (ho : PD X o t) (hu : PDA X (e :: es) u)
    (hst : starEach (e :: es) X.env = (false, eval e X.env) :: starEach es X.env := by rfl) (hpl : (backTo pos (starEach es X.env)).any (·.1) = false := by rfl)
    (ht : eval (.Call (.Attribute o m apos) (e :: es) [] pos) X.env = (do
      let ov ← eval o X.env
      standAt apos.atName
      let (f, first) ← holding [ov] (getMethod ov m pl)
      callWith pos f first (backTo pos (starEach (e :: es) X.env)) (backToKw pos (keywordEach [] X.env))) := by rfl) :
    PD X (.Call (.Attribute o m apos) (e :: es) [] pos) (tdMeth C m t' t u) := by
  obtain ⟨f, fd, ps, F, c, hm, hb⟩ := M.ex
  exact ⟨PE.weak (pe_meth ho.pe c hm F hr hb .nil pass0 hu.pa hst hpl ht) (tdMeth_run M ho.mono hu.mono), tdMeth_mono M ho.mono hu.mono⟩
theorem pd_meth0 {t' : TF} {k n : Nat} {pl : Sem Bool} (M : MthX X.prog X.w X.K X.mg X.base k C m n t') (hr : Room k X.A) (ho : PD X o t)
    (ht : eval (.Call (.Attribute o m apos) [] [] pos) X.env = (do
      let ov ← eval o X.env
      standAt apos.atName
      let (f, first) ← holding [ov] (getMethod ov m pl)
      callWith pos f first (backTo pos (starEach [] X.env)) (backToKw pos (keywordEach [] X.env))) := by rfl) :
    PD X (.Call (.Attribute o m apos) [] [] pos) (tdMeth C m t' t tdNil) := by
  obtain ⟨f, fd, ps, F, c, hm, hb⟩ := M.ex
  have mA : MonoA tdNil := fun _ _ _ q w => w _ _ q
  refine ⟨PE.weak (pe_meth0 ho.pe c hm F hr hb .nil pass0 ht) fun σ H Q q => ?_, tdMeth_mono M ho.mono mA⟩
  have z := tdMeth_run M ho.mono mA σ H Q q
  obtain ⟨B, H0, G0, δ, G, R, q⟩ := z
  refine ⟨B, H0, G0, δ, G, R, ho.mono _ _ _ q fun r δ1 q v H1 G1 R1 s1 f1 ok => ?_⟩
  obtain ⟨a, dx, fs, h1, h2, h3, B', H0', G0', δ', G', R', q'⟩ := q v H1 G1 R1 s1 f1 ok
  exact ⟨a, dx, fs, h1, h2, h3, q' [] H1 G' R' (Same.refl _) (Fra.refl _ _) trivial⟩
end
theorem putF_new {f : Str} {v : V} : ∀ {ns : List Str} {xs : List V}, ns.length = xs.length → f ∉ ns → putF f v (ns.zip xs) = (ns ++ [f]).zip (xs ++ [v])
  | [], [], _, _ => rfl
  | n :: ns, x :: xs, e, h => by
    show (if n = f then (n, v) :: ns.zip xs else (n, x) :: putF f v (ns.zip xs)) = (n, x) :: (ns ++ [f]).zip (xs ++ [v])
    have hn : n ≠ f := fun z => h (by rw [← z]; exact List.mem_cons_self)
    rw [if_neg hn, putF_new (by simpa using e) fun z => h (List.mem_cons_of_mem _ z)]
  | [], _ :: _, e, _ => by simp at e
  | _ :: _, [], e, _ => by simp at e
def tdFldS (i : Nat) (f : Str) (C : Addr) (te : TD) : TDS := fun D δ => te δ fun r δ1 => match fz r, δ1[i]? with
  | some d, some (.oI x C' ns ds) => C' = C ∧ f ∉ ns ∧ ns.length < 900 ∧ D.nx (δ1.set i (.oI x C' (ns ++ [f]) (ds ++ [d])))
  | _, _ => False
section
variable {X : Cx} {o value : Expr} {te : TD} {i : Nat} {f : Str} {C : Addr} {pos pos' : Pos}
theorem pds_fld (c : Cls X.K C) (n : NoAttr X.K C f) (ho : PE X o (tVar i)) (he : PD X value te) (hs : swapsWith value (some (.Attribute o f pos')) pos.line X.env = pure false := by rfl) : PDS X (.Assign [.Attribute o f pos'] value pos) (tdFldS i f C te) := by
  refine ⟨PS.weak (ps_fld ho he.pe hs) fun D σ H ⟨B, H0, G0, δ, G, R, q⟩ => ?_, fun D D' δ w q => he.mono _ _ _ q fun r δ1 q => ?_⟩
  · refine ⟨B, H0, G0, δ, G, R, he.mono _ _ _ q fun r δ1 q v H1 G1 R1 s1 f1 ok => ?_⟩
    split at q
    · rename_i d x C' ns ds er e1
      obtain ⟨rfl, hf, hl, qn⟩ := q
      obtain ⟨G2, R2, s2, hd⟩ := freeze R1 ok er
      rcases R2.sl i _ e1 with z | ⟨w, ew, a, rfl, ga, rfl, dx, xs, h0, h1, h2⟩
      · cases z
      · refine ⟨_, ew, a, C', dx, _, rfl, h1, c, n, ?_, ?_⟩
        · rw [List.length_zip, ← h0, Nat.min_self]; omega
        · rw [putF_new h0 hf]
          have oa : Own σ δ1 i a := ⟨ew, _, e1, rfl⟩
          exact qn σ _ G2 (R2.write oa (o := .ins C' dx ((ns ++ [f]).zip (xs ++ [v]))) trivial rfl ⟨rfl, dx, xs ++ [v], by simp [h0], upd_same, h2.append (.one hd)⟩)
    · exact q.elim
  · split at q
    · exact ⟨q.1, q.2.1, q.2.2.1, w.nx _ q.2.2.2⟩
    · exact q
end
abbrev TFI := List Sl → (List Str → List D → Prop) → Prop
structure RetI (K : PySem.W.Frag) (B : Bg K) (C : Addr) (H G H' G' : Hp) (x : Addr) (ns : List Str) (ds : List D) : Prop where
  gg : Same G G'
  gh : Same G' H'
  bag : ∀ b c, (b, c) ∈ B → BagOk H' G' b c
  fra : ∀ a o, a ≠ x → H a = some o → NotB B a → H' a = some o
  sz : HSz H'
  gn : ∀ a o, G' a = some o → G a = some o ∨ N0 (H a)
  gx : G' x = none
  obj : ∃ dx xs, ns.length = xs.length ∧ H' x = some (.ins C dx (ns.zip xs)) ∧ DdA K G' xs ds
def spI (K : PySem.W.Frag) (C : Addr) (n : Nat) (t : TFI) : Sp := fun vs H Q _ => ∃ x vs' B G dx rs, vs = .ref x :: vs' ∧ vs'.length = n ∧ H x = some (.ins C dx []) ∧ G x = none ∧ NotB B x ∧ Same G H ∧ (∀ b c, (b, c) ∈ B → BagOk H G b c) ∧ HSz H ∧ ArgsOk K B G vs' rs ∧
  t rs (fun ns ds => ∀ H' G', RetI K B C H G H' G' x ns ds → Q .non H')
structure InitX (P : Program) (w : World) (K : PySem.W.Frag) (mg : Str → Option Value) (base : Heap) (k : Nat) (C : Addr) (x : Str) (n : Nat) (t : TFI) : Prop where
  ex : ∃ f fd ps, FnOk P w K mg base CX0 k f fd ps (spI K C n t) ∧ Mk K C f ∧ mg x = some (.ref C) ∧ Binds K fd ps []
  mono : ∀ rs (Q Q' : List Str → List D → Prop), t rs Q → (∀ ns ds, Q ns ds → Q' ns ds) → t rs Q'
  len : ∀ rs Q, t rs Q → rs.length = n
def tdNew (C : Addr) (t : TFI) (u : TDA) : TD := fun δ Q => u δ fun rs δ' => t rs (fun ns ds => ∀ xa, Q (.oI xa C ns ds) δ')
section
variable {X : Cx} {e : Expr} {es : List Expr} {u : TDA} {C : Addr} {k n : Nat} {t : TFI} {x : Str} {p pos : Pos}
theorem pd_new (M : InitX X.prog X.w X.K X.mg X.base k C x n t) (hr : Room (k + 1) X.A) (hg : Gl X x) (h : PDA X (e :: es) u)
    (hdb : (x == ("__debug__" : Str)) = false := by decide) (he : starEach (e :: es) X.env = (false, eval e X.env) :: starEach es X.env := by rfl) (hpl : (backTo pos (starEach es X.env)).any (·.1) = false := by rfl) :
    PD X (.Call (.Name x p) (e :: es) [] pos) (tdNew C t u) := by
  obtain ⟨f, fd, ps, F, mk, hm, hb⟩ := M.ex
  refine ⟨PE.weak (pe_make mk F hr hg hm hb .nil pass0 h.pa hdb he hpl) fun σ H Q ⟨B, H0, G0, δ, G, R, q⟩ => ⟨B, H0, G0, δ, G, R, h.mono _ _ _ q fun rs δ1 q vs H1 G1 R1 s1 f1 oks => ?_⟩, fun δ Q Q' q w => h.mono _ _ _ q fun rs δ1 q => M.mono _ _ _ q fun ns ds q xa => w _ _ (q xa)⟩
  intro xa dx hx hdx nex
  rw [List.append_nil]
  have R2 := R1.laidO (o := .own xa) hdx trivial
  have hx2 : upd H1 dx (.own xa) xa = none := by rw [upd_ne nex.symm]; exact hx
  have R3 := R2.laidO (o := .ins C dx []) hx2 trivial
  have nB : NotB B xa := (R1.newOwn hx).2.1
  refine ⟨xa, vs, B, G1, dx, rs, rfl, oks.len.trans (M.len _ _ q), upd_same, R1.sub.free hx, nB, R3.sub, R3.bag, R3.sz, oks, M.mono _ _ _ q fun ns ds q H' G' k => ⟨rfl, ?_⟩⟩
  have back : ∀ a, N0 (upd (upd H1 dx (.own xa)) xa (.ins C dx []) a) → N0 (H1 a) := fun a z => by
    by_cases ha : a = xa
    · rw [ha]; exact .of hx
    · rw [upd_ne ha] at z
      by_cases hb : a = dx
      · rw [hb]; exact .of hdx
      · rw [upd_ne hb] at z; exact z
  have kk : RetOk X.K B H1 G1 H' G' (.ref xa) (.oI xa C ns ds) := by
    refine ⟨k.gg, k.gh, k.bag, fun a o e nb => k.fra a o (ne_of_none e hx) (by rw [upd_ne (ne_of_none e hx), upd_ne (ne_of_none e hdx)]; exact e) nb, k.sz, fun a o e => (k.gn a o e).imp id (back a), ⟨xa, rfl, k.gx, rfl, k.obj⟩, fun z => (nomatch z), fun _ a e => by cases e; exact hx⟩
  obtain ⟨R4, ok⟩ := R1.call kk
  exact q xa (.ref xa) H' G' R4 (s1.trans k.gg) (f1.trans kk.fra) ok
end
theorem rel_startI {K : PySem.W.Frag} {B : Bg K} {H G : Hp} {N : List Str} {vs : List V} {rs : List Sl} {x C dx : Addr} (hx : H x = some (.ins C dx [])) (gx : G x = none) (nx : NotB B x) (sub : Same G H) (bag : ∀ b c, (b, c) ∈ B → BagOk H G b c) (sz : HSz H) (oks : ArgsOk K B G vs rs) :
    Rel K B (fun a => if a = x then none else H a) G H (start N (.ref x :: vs)) (startD N (.oI x C [] [] :: rs)) G := by
  have el := oks.len
  have low : ∀ (i : Nat) (r : Sl), (startD N (.oI x C [] [] :: rs))[i]? = some r → (i = 0 ∧ r = .oI x C [] []) ∨ r = .no ∨ ∃ v, (start N (.ref x :: vs))[i]? = some (some v) ∧ ArgOk K B G v r := fun i r e => by
    cases i with
    | zero => cases e; exact .inl ⟨rfl, rfl⟩
    | succ i =>
      refine .inr ?_
      unfold startD at e
      rw [List.cons_append, List.getElem?_cons_succ] at e
      by_cases hi : i < rs.length
      · rw [List.getElem?_append_left hi] at e
        obtain ⟨v, ev, ok⟩ := argsOk_get oks e
        refine .inr ⟨v, ?_, ok⟩
        unfold L2.start
        rw [List.map_cons, List.cons_append, List.getElem?_cons_succ, List.getElem?_append_left (by rw [List.length_map, el]; exact hi), List.getElem?_map, ev]
        rfl
      · rw [List.getElem?_append_right (by omega), List.getElem?_replicate] at e
        split at e
        · cases e; exact .inl rfl
        · cases e
  have owns : ∀ i a, Own (start N (.ref x :: vs)) (startD N (.oI x C [] [] :: rs)) i a → i = 0 ∧ a = x := fun i a ⟨e1, s, e2, io⟩ => by
    rcases low i s e2 with ⟨z1, z2⟩ | rfl | ⟨v, _, ok⟩
    · subst z1
      have z : (start N (.ref x :: vs))[0]? = some (some (.ref x)) := rfl
      rw [z] at e1; cases e1
      exact ⟨rfl, rfl⟩
    · cases io
    · cases s <;> first | exact ok.elim | cases io
  refine ⟨sub, Same.refl _, fun a o e _ => ?_, ?_, fun i s e => ?_, fun i j a h1 h2 => ?_, fun i a h => ?_, bag, fun a o e => .inl e, sz, HdSl.none fun i s e => ?_⟩
  · by_cases ha : a = x
    · rw [if_pos ha] at e; cases e
    · rw [if_neg ha] at e; exact e
  · unfold L2.start startD
    simp [el]
  · rcases low i s e with ⟨rfl, rfl⟩ | z | ⟨v, ev, ok⟩
    · exact .inr ⟨.ref x, rfl, x, rfl, gx, rfl, dx, [], rfl, hx, .nil⟩
    · exact .inl (by rw [z]; rfl)
    · refine .inr ⟨v, ev, ?_⟩
      cases s <;> first | exact ok | exact ok.elim
  · rw [(owns i a h1).1, (owns j a h2).1]
  · obtain ⟨rfl, rfl⟩ := owns i a h
    exact ⟨if_pos rfl, gx, nx⟩
  · rcases low i s e with ⟨rfl, rfl⟩ | z | ⟨v, ev, ok⟩
    · rfl
    · rw [z]; rfl
    · cases s <;> first | rfl | exact ok.elim
section
variable {P : Program} {w : World} {K : PySem.W.Frag} {mg : Str → Option Value} {base : Heap} {m qual : Str} {st : Stmt} {f : Addr} {fd : FuncData} {N ps : List Str} {k n : Nat} {t : TFI} {C : Addr}
def endI (Q : List Str → List D → Prop) (x C : Addr) (δ : List Sl) : Prop := ∃ ns ds, δ[0]? = some (.oI x C ns ds) ∧ Q ns ds
theorem fnI (F : Fun K m qual st f fd) (S : FnScope N ps (defScope st)) (hn : ps.length = n + 1)
    (hb : ∀ (cdv : Value) (A : Around) (outer : List Env) (s : Shared) (H : Hp) (E : XK), Room k (A.deeper (envOfC qual (defScope st) s.heap.objs.size f cdv)) →
      ∃ tS, PDSs (cxOf CX0 P w K mg base N qual (defScope st) f cdv A outer s H E).nox (defBody st) tS ∧ ∀ x rs (Q : List Str → List D → Prop), t rs Q → tS { nx := endI Q x C, rt := fun r δ => r = .dt .non ∧ endI Q x C δ } (startD N (.oI x C [] [] :: rs))) :
    FnOk P w K mg base CX0 (k + 1) f fd ps (spI K C n t) :=
  F.ok S (fun vs H Q E h => by obtain ⟨x, vs', B, G, dx, rs, rfl, hl, _⟩ := h; rw [List.length_cons, hl]; exact hn.symm) fun cdv A outer s H vs Q E hr want => by
    obtain ⟨tS, h, le⟩ := hb cdv A outer s H E hr
    refine ⟨_, h.ps, ?_⟩
    obtain ⟨x, vs', B, G, dx, rs, rfl, hl, hx, gx, nx, sub, bag, sz, oks, q⟩ := want
    refine ⟨B, _, G, _, G, rel_startI hx gx nx sub bag sz oks, h.mono _ _ _ ?_ (le x rs _ q)⟩
    have fin : ∀ {δ' : List Sl} {σ' : L2.St} {H' G' : Hp}, Rel K B (fun a => if a = x then none else H a) G H' σ' δ' G' → endI (fun ns ds => ∀ H' G', RetI K B C H G H' G' x ns ds → Q .non H') x C δ' → Q .non H' := fun {δ' σ' H' G'} R' ⟨ns, ds, e, q⟩ => by
      rcases R'.sl 0 _ e with z | ⟨v, ev, a, rfl, ga, rfl, dx', xs, h0, h1, h2⟩
      · cases z
      · refine q H' G' ⟨R'.g0, R'.sub, R'.bag, fun b o nb e2 n => R'.ent b o (by rw [if_neg nb]; exact e2) n, R'.sz, fun b o e2 => ?_, ga, dx', xs, h0, h1, h2⟩
        rcases R'.gn b o e2 with z | z
        · exact .inl z
        · by_cases hb : b = a
          · rw [hb, ga] at e2; cases e2
          · rw [if_neg hb] at z; exact .inr z
    exact ⟨fun δ q σ' H' G' R' => fin R' q, fun r δ q v σ' H' G' R' ok => by
      obtain ⟨rfl, q⟩ := q
      cases ok.1
      exact fin R' q, fun _ q => q.elim, fun _ q => q.elim, fun _ _ _ _ q => q.elim⟩
end
structure Dfm (K : PySem.W.Frag) (C : Addr) (m qual : Str) (st : Stmt) (ps : List Str) : Prop where
  ex : ∃ f fd, Fun K m qual st f fd ∧ Meth K C m f ∧ Binds K fd ps []
section
variable {P : Program} {w : World} {K : PySem.W.Frag} {mg : Str → Option Value} {base : Heap} {m qual x : Str} {st : Stmt} {N ps : List Str} {k n : Nat} {t : TF} {C : Addr}
theorem MthX.of (c : Cls K C) (D : Dfm K C m qual st ps) (S : FnScope N ps (defScope st)) (hn : ps.length = n) (mt : MonoF t) (ln : ∀ rs Q, t rs Q → rs.length = n)
    (hb : ∀ (f : Addr) (cdv : Value) (A : Around) (outer : List Env) (s : Shared) (H : Hp) (E : XK), Room k (A.deeper (envOfC qual (defScope st) s.heap.objs.size f cdv)) →
      ∃ tS, PDSs (cxOf CX0 P w K mg base N qual (defScope st) f cdv A outer s H E).nox (defBody st) tS ∧ ∀ rs (Q : Sl → Prop), t rs Q → tS { nx := fun _ => Q (.dt .non), rt := fun r _ => Q r } (startD N rs)) :
    MthX P w K mg base (k + 1) C m n t := by
  obtain ⟨f, fd, F, hm, hbd⟩ := D.ex
  exact ⟨⟨f, fd, ps, fnD F S hn (fun cdv A outer s H E hr => hb f cdv A outer s H E hr), c, hm, hbd⟩, mt, ln⟩
structure Dfi (K : PySem.W.Frag) (mg : Str → Option Value) (C : Addr) (x qual : Str) (st : Stmt) (ps : List Str) : Prop where
  ex : ∃ f fd, Fun K "__init__" qual st f fd ∧ Mk K C f ∧ mg x = some (.ref C) ∧ Binds K fd ps []
theorem InitX.of {t : TFI} (D : Dfi K mg C x qual st ps) (S : FnScope N ps (defScope st)) (hn : ps.length = n + 1) (mt : ∀ rs (Q Q' : List Str → List DL.D → Prop), t rs Q → (∀ ns ds, Q ns ds → Q' ns ds) → t rs Q') (ln : ∀ rs Q, t rs Q → rs.length = n)
    (hb : ∀ (f : Addr) (cdv : Value) (A : Around) (outer : List Env) (s : Shared) (H : Hp) (E : XK), Room k (A.deeper (envOfC qual (defScope st) s.heap.objs.size f cdv)) →
      ∃ tS, PDSs (cxOf CX0 P w K mg base N qual (defScope st) f cdv A outer s H E).nox (defBody st) tS ∧ ∀ xa rs (Q : List Str → List DL.D → Prop), t rs Q → tS { nx := endI Q xa C, rt := fun r δ => r = .dt .non ∧ endI Q xa C δ } (startD N (.oI xa C [] [] :: rs))) :
    InitX P w K mg base (k + 1) C x n t := by
  obtain ⟨f, fd, F, hm, hx, hbd⟩ := D.ex
  exact ⟨⟨f, fd, ps, fnI F S hn (fun cdv A outer s H E hr => hb f cdv A outer s H E hr), hm, hx, hbd⟩, mt, ln⟩
end
end DL
set_option Elab.async false
set_option linter.all false
set_option maxRecDepth 100000
set_option maxHeartbeats 4000000
namespace DL
open PySem PySem.Spec PyProof.Rows L2
structure Col where
  h : Fm
  b : Fm
  f : Fm
def Col.d (c : Col) : D := .tup [c.h.d, c.b.d, c.f.d]
structure Col.Good (c : Col) : Prop where
  h : WholeF "head" c.h
  b : WholeF "body" c.b
  f : WholeF "foot" c.f
def sheetD (C : Addr) (cs : List Col) : D := .ins C ["its_columns"] [.lst (cs.map Col.d)]
def Rd.part : Rd → D
  | .nm c _ => c
  | .rg c _ _ => c
theorem gAll_of {ds : List D} {bs : List Bool} {δ : List Sl} {Q : QD} (e : blsOf ds = some bs) (q : Q (.dt (.bl (bs.all id))) δ) : gAll (.lst ds) δ Q := by
  show match blsOf ds with
    | some bs => Q (.dt (.bl (bs.all id))) δ
    | none => False
  rw [e]; exact q
theorem in_two {w a b : Str} (h : inV (.str w) [.str a, .str b] = true) : w = a ∨ w = b := by
  by_cases e1 : w = a
  · exact .inl e1
  · by_cases e2 : w = b
    · exact .inr e2
    · exfalso
      have z : inV (.str w) [.str a, .str b] = false := by
        unfold inV
        simp [eqV]
        exact ⟨fun z => e1 z.symm, fun z => e2 z.symm⟩
      rw [z] at h; cases h
end DL
set_option Elab.async false
set_option linter.all false
set_option maxRecDepth 100000
set_option maxHeartbeats 4000000
namespace DL
open PySem PySem.Spec PyProof.Rows L2
def spFld (C : Addr) (f : Str) : Sp := fun vs H Q _ => ∃ a y, vs = [.ref a, y] ∧ H a = some (exo a C none) ∧ ∀ dx, H dx = none → dx ≠ a → Q .non (upd (upd H dx (exd dx [(f, y)])) a (exo a C (some dx)))
structure ExcX (P : Program) (w : World) (K : PySem.W.Frag) (mg : Str → Option Value) (base : Heap) (k : Nat) (C : Addr) (x f : Str) : Prop where
  cls : OexC K C
  mg_ : mg x = some (.ref C)
  fld : PySem.W.findIn K (.ref C) f = some none
  ex : ∃ fI fd ps, PySem.W.findIn K (.ref C) "__init__" = some (some (.ref fI)) ∧ PySem.W.typeIn K (.ref fI) = some (.type "function") ∧ FnOk P w K mg base CX0 k fI fd ps (spFld C f) ∧ Binds K fd ps []
def tdRaise (C : Addr) (f : Str) (te : TD) : TDS := fun D δ => te δ fun r δ' => match fz r with
  | some d => D.ex C [f] [d] δ'
  | none => False
section
variable {X : Cx} {e : Expr} {te : TD} {C : Addr} {x f : Str} {k : Nat} {p pos pos2 : Pos}
theorem pds_raise (M : ExcX X.prog X.w X.K X.mg X.base k C x f) (hc : X.calm = true) (hr : Room (k + 1) X.A) (hg : Gl X x) (h : PD X e te) (hdb : (x == ("__debug__" : Str)) = false := by decide) (he : starEach [e] X.env = (false, eval e X.env) :: starEach [] X.env := by rfl) (hpl : (backTo pos (starEach [] X.env)).any (·.1) = false := by rfl) :
    PDS X (.Raise (some (.Call (.Name x p) [e] [] pos)) none pos2) (tdRaise C f te) := by
  obtain ⟨fI, fd, ps, iC, tI, F, hb⟩ := M.ex
  refine ⟨PS.weak (ps_raise hc (takes_WM X) (pmk_oex M.cls iC tI F hr hb .nil pass0 hg M.mg_ (pa_cons h.pe pa_nil he) hdb he hpl)) fun D σ H ⟨B, H0, G0, δ, G, R, q⟩ => ?_, fun D D' δ w q => h.mono _ _ _ q fun r δ' q => ?_⟩
  · refine ev_data h.mono (kk := fun d δ' => exW X B H0 G0 C [f] [d] δ') R q fun d δ1 y H1 G1 R1 s1 f1 hd hq => ?_
    refine ⟨(by decide : (1 : Nat) ≤ 1000), fun a ha => ?_⟩
    show spFld C f [.ref a, y] _ _ _
    refine ⟨a, y, rfl, upd_same, fun dx hdx ndx => ⟨rfl, dx, [(f, y)], upd_same, by rw [upd_ne ndx, upd_same], ?_, ?_⟩⟩
    · rw [upd_ne ndx] at hdx; exact hdx
    have h1 : H1 dx = none := by rw [upd_ne ndx] at hdx; exact hdx
    have eh : upd (del (upd (upd (upd H1 a (exo a C none)) dx (exd dx [(f, y)])) a (exo a C (some dx))) a) dx (.xd [(f, y)]) = upd H1 dx (.xd [(f, y)]) := by
      funext b
      by_cases hb : b = dx
      · rw [hb, upd_same, upd_same]
      · rw [upd_ne hb, upd_ne hb]
        by_cases hba : b = a
        · rw [hba, del_same, ha]
        · rw [del_ne hba, upd_ne hba, upd_ne hb, upd_ne hba]
    rw [eh]
    obtain ⟨n1, n2, n3⟩ := R1.newOwn h1
    exact hq σ _ G1 dx [y] (R1.laidO h1 trivial) rfl upd_same n1 (R1.sub.free h1) n2 n3 (.one hd)
  · cases er : fz r with
    | none => rw [er] at q; exact q
    | some d => rw [er] at q; exact w.ex _ _ _ _ q
end
abbrev TFE := List Sl → (Sl → Prop) → (Addr → List Str → List D → Prop) → Prop
def MonoE (t : TFE) : Prop := ∀ rs (Q Q' : Sl → Prop) (W W' : Addr → List Str → List D → Prop), t rs Q W → (∀ r, Q r → Q' r) → (∀ C ns ds, W C ns ds → W' C ns ds) → t rs Q' W'
structure RetX (K : PySem.W.Frag) (B : Bg K) (H G H' G' : Hp) (dd : Addr) : Prop where
  gg : Same G G'
  gh : Same G' H'
  bag : ∀ b c, (b, c) ∈ B → BagOk H' G' b c
  fra : Fra B H H'
  sz : HSz H'
  gn : ∀ a o, G' a = some o → G a = some o ∨ N0 (H a)
  dn : H dd = none
  gd : G' dd = none
def spE (K : PySem.W.Frag) (n : Nat) (t : TFE) : Sp := fun vs H Q E => vs.length = n ∧ ∃ B G rs, Same G H ∧ (∀ b c, (b, c) ∈ B → BagOk H G b c) ∧ HSz H ∧ ArgsOk K B G vs rs ∧
  t rs (fun r => ∀ v H' G', RetOk K B H G H' G' v r → Q v H') (fun C ns ds => ∀ H' G' dd xs, RetX K B H G H' G' dd → ns.length = xs.length → H' dd = some (.xd (ns.zip xs)) → DdA K G' xs ds → E (.ref C) (some dd) H')
section
variable {P : Program} {w : World} {K : PySem.W.Frag} {mg : Str → Option Value} {base : Heap} {x qual : Str} {st : Stmt} {f : Addr} {fd : FuncData} {N ps : List Str} {k n : Nat} {t : TFE}
theorem fnE (F : Fun K x qual st f fd) (S : FnScope N ps (defScope st)) (hn : ps.length = n)
    (hb : ∀ (cdv : Value) (A : Around) (outer : List Env) (s : Shared) (H : Hp) (E : XK), Room k (A.deeper (envOfC qual (defScope st) s.heap.objs.size f cdv)) →
      ∃ tS, PDSs (cxOf (L2.CX P w) P w K mg base N qual (defScope st) f cdv A outer s H E) (defBody st) tS ∧ ∀ rs (Q : Sl → Prop) (W : Addr → List Str → List D → Prop), t rs Q W → tS { nx := fun _ => Q (.dt .non), rt := fun r _ => Q r, ex := fun C ns ds _ => W C ns ds } (startD N rs)) :
    FnOk P w K mg base (L2.CX P w) (k + 1) f fd ps (spE K n t) :=
  F.okX S (fun vs H Q E h => h.1.trans hn.symm) fun cdv A outer s H vs Q E hr want => by
    obtain ⟨tS, h, le⟩ := hb cdv A outer s H E hr
    refine ⟨_, h.ps, ?_⟩
    obtain ⟨_, B, G, rs, sub, bag, sz, oks, q⟩ := want
    refine ⟨B, H, G, _, G, rel_start sub bag sz oks, h.mono _ _ _ ?_ (le rs _ _ q)⟩
    exact ⟨fun δ q σ' H' G' R' => q .non H' G' ⟨R'.g0, R'.sub, R'.bag, fun a o e n => R'.ent a o e n, R'.sz, R'.gn, .non, fun z => (nomatch z), fun z => (nomatch z)⟩,
      fun r δ q v σ' H' G' R' ok => q v H' G' ⟨R'.g0, R'.sub, R'.bag, fun a o e n => R'.ent a o e n, R'.sz, R'.gn, ok.1, ok.2.1, fun io a e => (ok.2.2 io a e).1⟩, fun _ q => q.elim, fun _ q => q.elim,
      fun C ns ds δ q σ' H' G' dd xs R' hl hd h0 gd nb no hA => WM.of (takes_of rfl rfl rfl rfl) (q H' G' dd xs ⟨R'.g0, R'.sub, R'.bag, fun a o e n => R'.ent a o e n, R'.sz, R'.gn, h0, gd⟩ hl hd hA)⟩
end
structure MthE (P : Program) (w : World) (K : PySem.W.Frag) (mg : Str → Option Value) (base : Heap) (k : Nat) (C : Addr) (m : Str) (n : Nat) (t : TFE) : Prop where
  ex : ∃ f fd ps, FnOk P w K mg base (L2.CX P w) k f fd ps (spE K n t) ∧ Cls K C ∧ Meth K C m f ∧ Binds K fd ps []
  mono : MonoE t
  len : ∀ rs Q W, t rs Q W → rs.length = n
theorem MthE.of {P : Program} {w : World} {K : PySem.W.Frag} {mg : Str → Option Value} {base : Heap} {m qual : Str} {st : Stmt} {N ps : List Str} {k n : Nat} {t : TFE} {C : Addr} (c : Cls K C) (D : Dfm K C m qual st ps) (S : FnScope N ps (defScope st)) (hn : ps.length = n) (mt : MonoE t) (ln : ∀ rs Q W, t rs Q W → rs.length = n)
    (hb : ∀ (f : Addr) (cdv : Value) (A : Around) (outer : List Env) (s : Shared) (H : Hp) (E : XK), Room k (A.deeper (envOfC qual (defScope st) s.heap.objs.size f cdv)) →
      ∃ tS, PDSs (cxOf (L2.CX P w) P w K mg base N qual (defScope st) f cdv A outer s H E) (defBody st) tS ∧ ∀ rs (Q : Sl → Prop) (W : Addr → List Str → List DL.D → Prop), t rs Q W → tS { nx := fun _ => Q (.dt .non), rt := fun r _ => Q r, ex := fun C ns ds _ => W C ns ds } (startD N rs)) :
    MthE P w K mg base (k + 1) C m n t := by
  obtain ⟨f, fd, F, hm, hbd⟩ := D.ex
  exact ⟨⟨f, fd, ps, fnE F S hn (fun cdv A outer s H E hr => hb f cdv A outer s H E hr), c, hm, hbd⟩, mt, ln⟩
abbrev TDE := List Sl → QD → (Addr → List Str → List D → List Sl → Prop) → Prop
def MonoDE (t : TDE) : Prop := ∀ δ (Q Q' : QD) (W W' : Addr → List Str → List D → List Sl → Prop), t δ Q W → (∀ r δ', Q r δ' → Q' r δ') → (∀ C ns ds δ', W C ns ds δ' → W' C ns ds δ') → t δ Q' W'
def tyEx (X : Cx) (t : TDE) : TE := fun σ H Q => ∃ B H0 G0 δ G, Rel X.K B H0 G0 H σ δ G ∧ t δ (Aft X.K B H0 G0 H σ G Q) (exW X B H0 G0)
structure PDE (X : Cx) (e : Expr) (t : TDE) : Prop where
  pe : PE X e (tyEx X t)
  mono : MonoDE t
end DL
set_option Elab.async false
set_option linter.all false
set_option maxRecDepth 100000
set_option maxHeartbeats 4000000
namespace DL
open PySem PySem.Spec PyProof.Rows L2
structure Cl where
  c : Value
  i : Option Nat
  ts : Addr → Value → Option Addr → TS
def endsN (i : Nat) (D : Ends) : Ends := { nx := fun σ' H' => D.nx (σ'.set i none) H', rt := D.rt, bk := fun σ' H' => D.bk (σ'.set i none) H', ct := fun σ' H' => D.ct (σ'.set i none) H' }
def wCl (K : PySem.W.Frag) (Wout : WX) (D : Ends) : List Cl → WX
  | [] => Wout
  | q :: r => fun cls d σ H => ∃ b, PySem.W.exmOne K cls q.c = some b ∧ (b = true → ∀ a, H a = none → match q.i with
      | none => q.ts a cls d D σ H
      | some i => q.ts a cls d (endsN i D) (σ.set i (some (.ref a))) H) ∧ (b = false → wCl K Wout D r cls d σ H)
inductive ClsOk (X : Cx) : List ExceptHandler → List Cl → Prop
  | nil : ClsOk X [] []
  | bare {x : Str} {c : Value} {ts : Addr → Value → Option Addr → TS} {s0 : Stmt} {su : List Stmt} {np hp : Pos} {hs : List ExceptHandler} {l : List Cl} (hc : Names X x c)
      (hsu : ∀ (a : Addr) (oe : Obj) (cls : Value) (d : Option Addr) (pn : List (Addr × Obj)), Zc cls d oe → (∃ vs, oe.data = .fields vs) → PSs (X.suite a ((a, oe) :: pn)) (s0 :: su) (ts a cls d)) (r : ClsOk X hs l) :
      ClsOk X (.ExceptHandler (some (.Name x np)) none (s0 :: su) hp :: hs) (⟨c, none, ts⟩ :: l)
  | named {x n : Str} {i : Nat} {c : Value} {ts : Addr → Value → Option Addr → TS} {s0 : Stmt} {su : List Stmt} {np hp : Pos} {hs : List ExceptHandler} {l : List Cl} (hi : X.N[i]? = some n) (hl : X.env.kindOf n = some .local) (hc : Names X x c)
      (hsu : ∀ (a : Addr) (oe : Obj) (cls : Value) (d : Option Addr) (pn : List (Addr × Obj)), Zc cls d oe → (∃ vs, oe.data = .fields vs) → PSs (X.suite a ((a, oe) :: pn)) (s0 :: su) (ts a cls d)) (r : ClsOk X hs l) :
      ClsOk X (.ExceptHandler (some (.Name x np)) (some n) (s0 :: su) hp :: hs) (⟨c, some i, ts⟩ :: l)
section
variable {X : Cx} {body : List Stmt} {h0 : ExceptHandler} {hs : List ExceptHandler} {l : List Cl} {pos : Pos} {tb : WX → TS} {Wout : WX}
theorem flow_up {Y : Cx} {pins pins' : List (Addr × Obj)} {D : Ends} {fl : Flow} {s : Shared} (up : ∀ {σ : L2.St} {H : Hp}, Inv Y pins' σ H s → Inv X pins σ H s) (h : SP Y pins' D fl s) : SP X pins D fl s := by
  cases fl with
  | next => obtain ⟨σ1, H1, J, q⟩ := h; exact ⟨σ1, H1, up J, q⟩
  | brk => obtain ⟨σ1, H1, J, q⟩ := h; exact ⟨σ1, H1, up J, q⟩
  | cont => obtain ⟨σ1, H1, J, q⟩ := h; exact ⟨σ1, H1, up J, q⟩
  | ret u => obtain ⟨v, σ1, H1, J, r, q⟩ := h; exact ⟨v, σ1, H1, up J, r, q⟩
theorem ps_tryC (hst : X.stack = X.env :: X.outer) (hfr : X.env.frame = some X.env.locals) (hN : X.N.Nodup) (tk : Takes X Wout)
    (hb : ∀ (W : WX) (pn : List (Addr × Obj)) (xe : Value → Shared → Prop), Takes (X.tr pn xe) W → PassesOwn (model X.prog X.w) X.A X.env xe → PSs (X.tr pn xe) body (tb W))
    (hh : ClsOk X (h0 :: hs) l) : PS X (.Try body (h0 :: hs) [] [] pos) (fun D σ H => tb (wCl X.K Wout D l) D σ H) := by
  refine ⟨fun pins s σ H D I want => ?_⟩
  have ok := I.ok
  have frames : X.A.frames = some (X.env :: X.outer) := by rw [ok.frames, hst]
  refine wpAny_Try_except (wpAny_mono ((hb (wCl X.K Wout D l) (X.pn ++ pins) (fun e s₁ => wpAny (model X.prog X.w) X.A (noteFrame e X.env) (fun _ s₂ => wpAny (model X.prog X.w) X.A (setFlight e none) (fun _ s₃ =>
    wpAny (model X.prog X.w) X.A (handleBy e X.env (h0 :: hs)) (SP X pins D) X.xe s₃) X.xe s₂) X.xe s₁) ?_ PassesOwn.looking).run [] s σ H D (I.toTry _) want) ?_ fun _ _ he => he)
  ·
    rintro u s' ⟨a, G, sI, pins', σ', H', cls, d, rfl, J', gr, up, sky, na, os, ag, wish⟩
    have J : Inv X pins σ' H' sI := J'.ofTry ok
    rw [show (X.tr (X.pn ++ pins) _).stack = X.env :: X.outer from hst] at sky
    refine Sky.land Zc.steady frames hfr sky fun hp fl up3 => ?_
    have JL : ∀ {h4 : Heap}, G.StaysIn h4 → sI.heap.UpToSlots h4 → Inv X pins σ' H' { s' with heap := h4 } := fun st u4 => J.landed gr st u4 os ag
    have J3 := JL fl.1 (up.trans up3)
    obtain ⟨oe, vs, he, hz, hd⟩ := fl.there
    have apart : a ∉ frs (X.env :: X.outer) := fun hm => by
      obtain ⟨_, o', e', nf⟩ := fl.2.2.1.mem hm
      rw [he] at e'; cases e'
      exact nf _ hd
    have nL : a ≠ X.env.locals := fun z => apart (List.mem_filterMap.mpr ⟨X.env, List.mem_cons_self, by rw [hfr, z]⟩)
    have nF : a ∉ X.fs := fun hm => by
      obtain ⟨e, hm1, hm2⟩ := List.mem_filterMap.mp hm
      exact apart (List.mem_filterMap.mpr ⟨e, List.mem_cons_of_mem _ hm1, hm2⟩)
    have S3 := J3.suite he hd na nL nF
    have LT : PySem.W.Looks (model X.prog X.w) hp (typeOf (.ref a)) cls := fun A Q E s k q => wpAny_typeOf_ref (k _ _ he) (by rw [hz.1]; exact q)
    have named : ∀ {x : Str} {c : Value} {np : Pos} {Q : Value → Shared → Prop} {E : Value → Shared → Prop}, Names X x c → Q c { s' with heap := hp } → wpAny (model X.prog X.w) (X.A.mark (some (.ref a))) (eval (.Name x np) X.env) Q E { s' with heap := hp } := fun {x c np Q E} hc q => by
      obtain ⟨hg, hdbg, hm | ⟨hm, hv, hnn⟩⟩ := hc
      · exact ld_glob (X := X.suite a ((a, oe) :: (X.pn ++ pins))) S3 hg hm q hdbg
      · exact ld_blt (X := X.suite a ((a, oe) :: (X.pn ++ pins))) S3 hg hm hv q hnn hdbg
    have each : ∀ {hds : List ExceptHandler} {cs : List Cl}, ClsOk X hds cs → wCl X.K Wout D cs cls d σ' H' → wpAny (model X.prog X.w) X.A (handleBy (.ref a) X.env hds) (SP X pins D) X.xe { s' with heap := hp } := by
      intro hds cs hk
      induction hk with
      | nil =>
        intro wish
        refine wpAny_handleBy_nil ?_
        have out : wpAny (model X.prog X.w) X.A (setFlight (.ref a) X.env.frame) (fun _ s4 => wpAny (model X.prog X.w) X.A (throw (.ref a) : Sem Flow) (SP X pins D) X.xe s4) X.xe { s' with heap := hp } := by
          rw [hfr]
          exact HandSPX.setFlight_upZ fl fun h4 hh4 up4 => wpAny_throw (tk _ _ ⟨a, G, sI, pins, σ', H', cls, d, rfl, J, gr, (up.trans up3).trans up4, .inr (.inr (by rw [hst]; exact hh4)), na, os, ag, wish⟩)
        obtain ⟨_, _, _, oe2, vs2, T2, _, _, he2, _, hd2, h12, _⟩ := id fl
        unfold PySem.passOn
        refine wpAny_bind (wpAny_field he2 hd2 h12 ?_)
        rw [if_neg (by simp : ¬ ((Value.ref T2 == Value.none) = true))]
        first
          | exact wpAny_bind (wpAny_pure (wpAny_bind out))
          | exact wpAny_bind out
      | bare hc hsu _ ih =>
        rintro ⟨b, hb1, hyes, hno⟩
        refine wpAny_handleBy_cons (codeAny_handlers_test (named hc ((PySem.W.exm_one (M := model X.prog X.w) J3.kIn LT hb1).here ?_))) (fun z => nomatch z)
        cases b with
        | false => exact ih (hno rfl)
        | true =>
          refine codeAny_handlers_suite (HandSPX.lands_againZ fl fun h4 fl4 up4 => ?_)
          obtain ⟨oe4, vs4, he4, hz4, hd4⟩ := fl4.there
          have S4 := (JL fl4.1 ((up.trans up3).trans up4)).suite he4 hd4 na nL nF
          exact wpAny_mono ((hsu a oe4 cls d (X.pn ++ pins) hz4 ⟨_, hd4⟩).run [] _ _ H' _ S4 (hyes rfl a na)) (fun _ _ hsp => flow_up (fun S6 => S6.unsuite ok) hsp) fun _ _ z => z.elim
      | @named x n i c ts s0 su np hpos hs2 l2 hi hl hc hsu _ ih =>
        rintro ⟨b, hb1, hyes, hno⟩
        refine wpAny_handleBy_cons (codeAny_handlers_test (named hc ((PySem.W.exm_one (M := model X.prog X.w) J3.kIn LT hb1).here ?_))) (fun z => nomatch z)
        cases b with
        | false => exact ih (hno rfl)
        | true =>
          refine codeAny_handlers_suite_as (HandSPX.lands_againZ fl fun h4 fl4 up4 => ?_)
          obtain ⟨oe4, vs4, he4, hz4, hd4⟩ := fl4.there
          have S4 := (JL fl4.1 ((up.trans up3).trans up4)).suite he4 hd4 na nL nF
          refine store_ok (X := X.suite a ((a, oe4) :: (X.pn ++ pins))) (v := .ref a) S4 hN hi (.inl hl) rfl (fun s5 S5 => ?_) (.inr hl)
          refine wpAny_mono ((hsu a oe4 cls d (X.pn ++ pins) hz4 ⟨_, hd4⟩).run [] s5 _ H' _ S5 (hyes rfl a na)) (fun f s6 hsp => ?_) fun _ _ z => z.elim
          have gone : ∀ {σ6 : L2.St} {H6 : Hp} {Q : Shared → Prop}, Inv (X.suite a ((a, oe4) :: (X.pn ++ pins))) [] σ6 H6 s6 → (∀ s7, Inv X pins (σ6.set i none) H6 s7 → Q s7) →
              wpAny (model X.prog X.w) X.A (do bindName X.env n .none; unbindBehindTheSuite X.env n hpos) (fun _ s7 => Q s7) X.xe s6 := fun S6 hq => gone_ok (S6.unsuite ok) hN hi hl hq
          cases f with
          | next => obtain ⟨_, _, S6, q6⟩ := hsp; exact gone S6 fun s7 J7 => ⟨_, _, J7, q6⟩
          | brk => obtain ⟨_, _, S6, q6⟩ := hsp; exact gone S6 fun s7 J7 => ⟨_, _, J7, q6⟩
          | cont => obtain ⟨_, _, S6, q6⟩ := hsp; exact gone S6 fun s7 J7 => ⟨_, _, J7, q6⟩
          | ret u => obtain ⟨_, _, _, S6, r6, q6⟩ := hsp; exact gone S6 fun s7 J7 => ⟨_, _, _, J7, r6, q6⟩
    exact each hh wish
  · rintro f s1 hsp
    have hsp2 : SP X pins D f s1 := flow_up (fun J' => J'.ofTry ok) hsp
    cases f with
    | next => exact wpAny_execs_nil hsp2
    | brk => exact hsp2
    | cont => exact hsp2
    | ret u => exact hsp2
end
end DL
set_option Elab.async false
set_option linter.all false
set_option maxRecDepth 100000
set_option maxHeartbeats 4000000
namespace DL
open PySem PySem.Spec PyProof.Rows L2
def endsW (K : PySem.W.Frag) (W : WX) (B : Bg K) (H0 G0 : Hp) (D : Ends) : EndsD where
  nx := fun δ' => ∀ σ' H' G', Rel K B H0 G0 H' σ' δ' G' → D.nx σ' H'
  rt := fun r δ' => ∀ v σ' H' G', Rel K B H0 G0 H' σ' δ' G' → ResOk K B H0 H' σ' δ' G' v r → D.rt v H'
  bk := fun δ' => ∀ σ' H' G', Rel K B H0 G0 H' σ' δ' G' → D.bk σ' H'
  ct := fun δ' => ∀ σ' H' G', Rel K B H0 G0 H' σ' δ' G' → D.ct σ' H'
  ex := fun C ns ds δ' => ∀ σ' H' G' dd xs, Rel K B H0 G0 H' σ' δ' G' → ns.length = xs.length → H' dd = some (.xd (ns.zip xs)) → H0 dd = none → G' dd = none → NotB B dd → (∀ i, ¬ Own σ' δ' i dd) → DdA K G' xs ds → W (.ref C) (some dd) σ' H'
def tyW (K : PySem.W.Frag) (W : WX) (t : TDS) : TS := fun D σ H => ∃ B H0 G0 δ G, Rel K B H0 G0 H σ δ G ∧ t (endsW K W B H0 G0 D) δ
abbrev wNo : WX := fun _ _ _ _ => False
theorem pss_tyW {X : Cx} {sts : List Stmt} {t : TDS} {W : WX} (h : PDSs X sts t) (le : ∀ C d σ H, W (.ref C) (some d) σ H → WM X (.ref C) (some d) σ H) : PSs X sts (tyW X.K W t) :=
  PSs.weak h.ps fun D σ H ⟨B, H0, G0, δ, G, R, q⟩ => ⟨B, H0, G0, δ, G, R, h.mono (endsW X.K W B H0 G0 D) (endsOf X B H0 G0 D) _ ⟨fun _ q => q, fun _ _ q => q, fun _ q => q, fun _ q => q, fun C ns ds δ' q σ' H' G' dd xs R' h1 h2 h3 h4 h5 h6 h7 => le _ _ _ _ (q σ' H' G' dd xs R' h1 h2 h3 h4 h5 h6 h7)⟩ q⟩
structure ClD where
  c : Value
  i : Option Nat
  th : Addr → Value → Option Addr → TDS
def endsS (D : EndsD) : EndsD := { D with ex := fun _ _ _ _ => False }
def endsSN (i : Nat) (D : EndsD) : EndsD := { nx := fun δ => D.nx (δ.set i .no), rt := D.rt, bk := fun δ => D.bk (δ.set i .no), ct := fun δ => D.ct (δ.set i .no), ex := fun _ _ _ _ => False }
def disp (K : PySem.W.Frag) (D : EndsD) : List ClD → Addr → List Str → List DL.D → List Sl → Prop
  | [], C, ns, ds, δ => D.ex C ns ds δ
  | q :: r, C, ns, ds, δ => ∃ b, PySem.W.exmOne K (.ref C) q.c = some b ∧ (b = true → ∀ a dd, match q.i with
      | none => q.th a (.ref C) (some dd) (endsS D) δ
      | some i => q.th a (.ref C) (some dd) (endsSN i D) (δ.set i (.xcp a dd C ns ds))) ∧ (b = false → disp K D r C ns ds δ)
def tdTry (K : PySem.W.Frag) (tb : TDS) (cs : List ClD) : TDS := fun D δ => tb { D with ex := disp K D cs } δ
theorem le_S {D D' : EndsD} (w : EndsD.le D D') : EndsD.le (endsS D) (endsS D') := ⟨w.nx, w.rt, w.bk, w.ct, fun _ _ _ _ q => q⟩
theorem le_SN {i : Nat} {D D' : EndsD} (w : EndsD.le D D') : EndsD.le (endsSN i D) (endsSN i D') := ⟨fun _ q => w.nx _ q, w.rt, fun _ q => w.bk _ q, fun _ q => w.ct _ q, fun _ _ _ _ q => q⟩
theorem disp_mono {K : PySem.W.Frag} {D D' : EndsD} (w : EndsD.le D D') : ∀ {cs : List ClD}, (∀ q ∈ cs, ∀ a c d, MonoS (q.th a c d)) → ∀ C ns ds δ, disp K D cs C ns ds δ → disp K D' cs C ns ds δ
  | [], _, C, ns, ds, δ, h => w.ex _ _ _ _ h
  | q :: r, m, C, ns, ds, δ, ⟨b, e, h1, h2⟩ => ⟨b, e, fun hb a dd => by
      have z := h1 hb a dd
      cases e2 : q.i with
      | none => rw [e2] at z; exact m q List.mem_cons_self _ _ _ _ _ _ (le_S w) z
      | some i => rw [e2] at z; exact m q List.mem_cons_self _ _ _ _ _ _ (le_SN w) z, fun hb => disp_mono w (fun q hq => m q (List.mem_cons_of_mem _ hq)) C ns ds δ (h2 hb)⟩
def clOf (K : PySem.W.Frag) (q : ClD) : Cl := ⟨q.c, q.i, fun a cls d => tyW K wNo (q.th a cls d)⟩
theorem disp_run {X : Cx} {B : Bg X.K} {H0 G0 : Hp} {D : Ends} {C : Addr} {ns : List Str} {ds : List DL.D} {δ' : List Sl} : ∀ {cs : List ClD}, (∀ q ∈ cs, ∀ a c d, MonoS (q.th a c d)) → disp X.K (endsOf X B H0 G0 D) cs C ns ds δ' → ∀ σ' H' G' dd xs, Rel X.K B H0 G0 H' σ' δ' G' → ns.length = xs.length → H' dd = some (.xd (ns.zip xs)) → H0 dd = none → G' dd = none → NotB B dd → (∀ i, ¬ Own σ' δ' i dd) → DdA X.K G' xs ds →
    wCl X.K (WM X) D (cs.map (clOf X.K)) (.ref C) (some dd) σ' H'
  | [], _, h, σ', H', G', dd, xs, R', h1, h2, h3, h4, h5, h6, h7 => h σ' H' G' dd xs R' h1 h2 h3 h4 h5 h6 h7
  | q :: r, m, ⟨b, e, k1, k2⟩, σ', H', G', dd, xs, R', h1, h2, h3, h4, h5, h6, h7 => by
    refine ⟨b, e, fun hb a na => ?_, fun hb => disp_run (fun q hq => m q (List.mem_cons_of_mem _ hq)) (k2 hb) σ' H' G' dd xs R' h1 h2 h3 h4 h5 h6 h7⟩
    have z := k1 hb a dd
    have mq := m q List.mem_cons_self a (.ref C) (some dd)
    show match q.i with
      | none => tyW X.K wNo (q.th a (.ref C) (some dd)) D σ' H'
      | some i => tyW X.K wNo (q.th a (.ref C) (some dd)) (endsN i D) (σ'.set i (some (.ref a))) H'
    cases e2 : q.i with
    | none =>
      rw [e2] at z
      exact ⟨B, H0, G0, δ', G', R', mq (endsS (endsOf X B H0 G0 D)) (endsW X.K wNo B H0 G0 D) _ ⟨fun _ q => q, fun _ _ q => q, fun _ q => q, fun _ q => q, fun _ _ _ _ q => q.elim⟩ z⟩
    | some i =>
      rw [e2] at z
      obtain ⟨R2, sG⟩ := R'.share h2 h4 h3 h5 h6
      have R3 := R2.assign (v := .ref a) (r := .xcp a dd C ns ds) ⟨⟨rfl, xs, h1, upd_same, DdA.mono sG _ _ h7⟩, fun z => (nomatch z), fun z => (nomatch z)⟩ i
      have gone : ∀ {σ2 : L2.St} {δ2 : List Sl} {H2 G2 : Hp}, Rel X.K B H0 G0 H2 σ2 δ2 G2 → Rel X.K B H0 G0 H2 (σ2.set i none) (δ2.set i .no) G2 := fun R4 => R4.wipes [i]
      exact ⟨B, H0, G0, _, _, R3, mq (endsSN i (endsOf X B H0 G0 D)) (endsW X.K wNo B H0 G0 (endsN i D)) _ ⟨fun _ q σ2 H2 G2 R4 => q _ _ _ (gone R4), fun _ _ q => q, fun _ q σ2 H2 G2 R4 => q _ _ _ (gone R4), fun _ q σ2 H2 G2 R4 => q _ _ _ (gone R4), fun _ _ _ _ q => q.elim⟩ z⟩
inductive ClsD (X : Cx) : List ExceptHandler → List ClD → Prop
  | nil : ClsD X [] []
  | bare {x : Str} {c : Value} {th : Addr → Value → Option Addr → TDS} {s0 : Stmt} {su : List Stmt} {np hp : Pos} {hs : List ExceptHandler} {l : List ClD} (hc : Names X x c)
      (hsu : ∀ (a : Addr) (oe : Obj) (cls : Value) (d : Option Addr) (pn : List (Addr × Obj)), Zc cls d oe → (∃ vs, oe.data = .fields vs) → PDSs (X.suite a ((a, oe) :: pn)) (s0 :: su) (th a cls d)) (mt : ∀ a c d, MonoS (th a c d)) (r : ClsD X hs l) :
      ClsD X (.ExceptHandler (some (.Name x np)) none (s0 :: su) hp :: hs) (⟨c, none, th⟩ :: l)
  | named {x n : Str} {i : Nat} {c : Value} {th : Addr → Value → Option Addr → TDS} {s0 : Stmt} {su : List Stmt} {np hp : Pos} {hs : List ExceptHandler} {l : List ClD} (hi : X.N[i]? = some n) (hl : X.env.kindOf n = some .local) (hc : Names X x c)
      (hsu : ∀ (a : Addr) (oe : Obj) (cls : Value) (d : Option Addr) (pn : List (Addr × Obj)), Zc cls d oe → (∃ vs, oe.data = .fields vs) → PDSs (X.suite a ((a, oe) :: pn)) (s0 :: su) (th a cls d)) (mt : ∀ a c d, MonoS (th a c d)) (r : ClsD X hs l) :
      ClsD X (.ExceptHandler (some (.Name x np)) (some n) (s0 :: su) hp :: hs) (⟨c, some i, th⟩ :: l)
theorem ClsD.ok {X : Cx} {hs : List ExceptHandler} {l : List ClD} (h : ClsD X hs l) : ClsOk X hs (l.map (clOf X.K)) ∧ ∀ q ∈ l, ∀ a c d, MonoS (q.th a c d) := by
  induction h with
  | nil => exact ⟨.nil, fun q hq => (List.not_mem_nil hq).elim⟩
  | bare hc hsu mt r ih =>
    refine ⟨.bare hc (fun a oe cls d pn hz hf => pss_tyW (hsu a oe cls d pn hz hf) fun _ _ _ _ z => z.elim) ih.1, fun q hq => ?_⟩
    rcases List.mem_cons.mp hq with rfl | hq
    · exact mt
    · exact ih.2 q hq
  | named hi hl hc hsu mt r ih =>
    refine ⟨.named hi hl hc (fun a oe cls d pn hz hf => pss_tyW (hsu a oe cls d pn hz hf) fun _ _ _ _ z => z.elim) ih.1, fun q hq => ?_⟩
    rcases List.mem_cons.mp hq with rfl | hq
    · exact mt
    · exact ih.2 q hq
section
variable {X : Cx} {body : List Stmt} {h0 : ExceptHandler} {hs : List ExceptHandler} {cs : List ClD} {tb : TDS} {pos : Pos}
theorem pds_try (hst : X.stack = X.env :: X.outer) (hfr : X.env.frame = some X.env.locals) (hN : X.N.Nodup)
    (hb : ∀ (pn : List (Addr × Obj)) (xe : Value → Shared → Prop), PassesOwn (model X.prog X.w) X.A X.env xe → PDSs (X.tr pn xe) body tb) (mb : MonoS tb) (hc : ClsD X (h0 :: hs) cs) : PDS X (.Try body (h0 :: hs) [] [] pos) (tdTry X.K tb cs) := by
  obtain ⟨hok, mq⟩ := hc.ok
  refine ⟨PS.weak (ps_tryC (tb := fun W => tyW X.K W tb) hst hfr hN (takes_WM X) (fun W pn xe tk po => pss_tyW (X := X.tr pn xe) (hb pn xe po) fun _ _ _ _ z => WM.of tk z) hok) fun D σ H ⟨B, H0, G0, δ, G, R, q⟩ => ?_, fun D D' δ w q => mb { D with ex := disp X.K D cs } { D' with ex := disp X.K D' cs } _ ⟨w.nx, w.rt, w.bk, w.ct, fun C ns ds δ' z => disp_mono w mq C ns ds δ' z⟩ q⟩
  exact ⟨B, H0, G0, δ, G, R, mb { endsOf X B H0 G0 D with ex := disp X.K (endsOf X B H0 G0 D) cs } (endsW X.K (wCl X.K (WM X) D (cs.map (clOf X.K))) B H0 G0 D) _ ⟨fun _ q => q, fun _ _ q => q, fun _ q => q, fun _ q => q, fun C ns ds δ' z => disp_run mq z⟩ q⟩
end
def tdXf (a : Addr) (cls : Value) (d : Option Addr) (C : Addr) (f : Str) (i : Nat) : TD := fun δ Q => match δ[i]? with
  | some (.xcp a' dd C' ns ds) => a' = a ∧ cls = .ref C ∧ C' = C ∧ d = some dd ∧ ∃ dat, lk f ns ds = some dat ∧ Q (.dt dat) δ
  | _ => False
theorem pd_xf {X : Cx} {a C : Addr} {oe : Obj} {cls : Value} {d : Option Addr} {pn : List (Addr × Obj)} {e : Expr} {pos : Pos} {f : Str} {i : Nat} (T : XfC X.K C) (hno : PySem.W.findIn X.K (.ref C) f = some none)
    (hz : Zc cls d oe) (hf : ∃ vs, oe.data = .fields vs) (he : PE (X.suite a ((a, oe) :: pn)) e (tVar i)) (hb : attributeBase e f X.env (eval e X.env) = eval e X.env := by rfl) :
    PD (X.suite a ((a, oe) :: pn)) (.Attribute e f pos) (tdXf a cls d C f i) := by
  refine ⟨PE.weak (pe_xf T hno hz hf he hb) fun σ H Q ⟨B, H0, G0, δ, G, R, q⟩ => ?_, fun δ Q Q' q w => ?_⟩
  · unfold tdXf at q
    split at q
    · rename_i a' dd C' ns ds e1
      obtain ⟨rfl, rfl, rfl, rfl, dat, hl, q2⟩ := q
      rcases R.sl i _ e1 with z | ⟨v, ev, rfl, xs, h0, h1, h2⟩
      · cases z
      · obtain ⟨v, e2, hv⟩ := lk_ok h2 hl
        exact ⟨_, ev, rfl, rfl, dd, _, v, rfl, R.sub _ _ h1, e2, aft_here R hv q2⟩
    · exact q.elim
  · unfold tdXf at q ⊢
    split at q
    · obtain ⟨h1, h2, h3, h4, dat, hl, q2⟩ := q
      exact ⟨h1, h2, h3, h4, dat, hl, w _ _ q2⟩
    · exact q
def tdRetE (t : TDE) : TDS := fun D δ => t δ D.rt D.ex
def tdTupE (ta : TD) (tb : TDE) : TDE := fun δ Q W => ta δ fun r δ1 => match fz r with
  | none => False
  | some d => tb δ1 (fun s δ2 => match fz s with
    | none => False
    | some e => Q (.dt (.tup [d, e])) δ2) W
section
variable {X : Cx} {a b e : Expr} {ta : TD} {tb t : TDE} {pos : Pos}
theorem pds_retE (h : PDE X e t) : PDS X (.Return (some e) pos) (tdRetE t) :=
  ⟨PS.weak (ps_ret h.pe) fun D σ H ⟨B, H0, G0, δ, G, R, q⟩ => ⟨B, H0, G0, δ, G, R, h.mono _ _ _ _ _ q (fun r δ' q v H' G' R' _ _ ok => q v σ H' G' R' ok) fun _ _ _ _ q => q⟩, fun D D' δ w q => h.mono _ _ _ _ _ q (fun r δ' q => w.rt _ _ q) fun _ _ _ _ q => w.ex _ _ _ _ q⟩
theorem pde_tup {kt : Nat} (ha : PD X a ta) (hb : PDE X b tb) (h1 : starEach [a, b] X.env = (false, eval a X.env) :: starEach [b] X.env := by rfl) (h2 : starEach [b] X.env = (false, eval b X.env) :: starEach [] X.env := by rfl) : PDE X (.Tuple [a, b] kt pos) (tdTupE ta tb) := by
  refine ⟨PE.weak (pe_tup (pa_cons ha.pe (pa_cons hb.pe pa_nil h2) h1)) fun σ H Q ⟨B, H0, G0, δ, G, R, q⟩ => ?_, fun δ Q Q' W W' q w w' => ha.mono _ _ _ q fun r δ1 q => ?_⟩
  · refine ev_data ha.mono (kk := fun d δ1 => tb δ1 (fun s δ2 => match fz s with
      | none => False
      | some e => Aft X.K B H0 G0 H σ G Q (.dt (.tup [d, e])) δ2) (exW X B H0 G0)) R (ha.mono _ _ _ q fun r δ1 q => ?_) fun d δ1 v H1 G1 R1 s1 f1 hd hq => ?_
    · cases er : fz r with
      | none => rw [er] at q; exact q
      | some d => rw [er] at q; exact q
    · refine ⟨B, H0, G0, δ1, G1, R1, hb.mono _ _ _ _ _ hq (fun s δ2 q w H2 G2 R2 s2 f2 ok => ?_) fun _ _ _ _ q => q⟩
      cases es : fz s with
      | none => rw [es] at q; exact q.elim
      | some e =>
        rw [es] at q
        obtain ⟨G3, R3, s3, he⟩ := freeze R2 ok es
        refine ⟨(by show (2 : Nat) ≤ sizeLine; decide), fun p hp => ?_⟩
        have gp := R3.sub.free hp
        have sG : Same G3 (upd G3 p (.tup [v, w])) := fun b x e => by rw [upd_ne (ne_of_none e gp)]; exact e
        exact aft_laid R3 hp (by show (2 : Nat) ≤ sizeLine; decide) (.tup (.inl upd_same) (.cons (Dd.mono ((s2.trans s3).trans sG) _ _ hd) (.cons (Dd.mono sG _ _ he) .nil))) (aftUp q ((s1.trans s2).trans s3) (f1.trans f2))
  · cases er : fz r with
    | none => rw [er] at q; exact q
    | some d =>
      rw [er] at q
      refine hb.mono _ _ _ _ _ q (fun s δ2 q => ?_) w'
      cases es : fz s with
      | none => rw [es] at q; exact q
      | some e => rw [es] at q; exact w _ _ q
end
section
variable {X : Cx} {e o : Expr} {es : List Expr} {t : TD} {u : TDA} {m : Str} {C : Addr} {pos apos : Pos}
theorem MthE.calm {P : Program} {w : World} {K : PySem.W.Frag} {mg : Str → Option Value} {base : Heap} {k n : Nat} {t : TFE} (M : MthE P w K mg base k C m n t) : ∃ f fd ps, FnOk P w K mg base (L2.CX P w) k f fd ps (spD K n fun rs Q => t rs Q fun _ _ _ => False) ∧ Cls K C ∧ Meth K C m f ∧ Binds K fd ps [] := by
  obtain ⟨f, fd, ps, F, c, hm, hb⟩ := M.ex
  have imp : ∀ vs H Q E, spD K n (fun rs Q => t rs Q fun _ _ _ => False) vs H Q E → spE K n t vs H Q E := fun vs H Q E ⟨h1, B, G, rs, h2, h3, h4, h5, q⟩ => ⟨h1, B, G, rs, h2, h3, h4, h5, M.mono _ _ _ _ _ q (fun _ q => q) fun _ _ _ z => z.elim⟩
  exact ⟨f, fd, ps, ⟨fun vs H Q E h => F.len vs H Q E (imp vs H Q E h), fun A outer s H args us vs Q E r en b v h => F.run A outer s H args us vs Q E r en b v (imp vs H Q E h)⟩, c, hm, hb⟩
end
end DL
set_option Elab.async false
set_option linter.all false
set_option maxRecDepth 100000
set_option maxHeartbeats 4000000
namespace DL
open PySem PySem.Spec PyProof.Rows L2
def oexO (K : PySem.W.Frag) (C : Addr) : Bool := match K.lookup C with
  | some ⟨.type "type", _, .cls cd, sl⟩ => (match cd.mro, sl.toList with
    | .ref C' :: bm, [_, _, _, _, some (.builtin n), _] => (C' == C && n == "ValueError.__new__") && ((!cd.hasDel && cd.hasDict) && PySem.HandSPX.refsVE bm)
    | _, _ => false)
  | _ => false
def oexB (K : PySem.W.Frag) (C : Addr) : Bool := oexO K C && (He.eqO (PySem.W.findIn K (.ref C) "__setattr__") (some (some (.builtin "object.__setattr__"))) && (decide (PySem.W.subIn K (.ref C) (.type "BaseException") = some true) && (decide (PySem.W.typeIn K (.ref C) = some (.type "type")) && PySem.W.keepIn K (.ref C))))
theorem oexB_ok {K : PySem.W.Frag} {C : Addr} (h : oexB K C = true) : OexC K C := by
  unfold oexB at h
  simp only [Bool.and_eq_true] at h
  obtain ⟨h1, h2, h3, h4, h5⟩ := h
  refine ⟨?_, He.eqO_ok h2, of_decide_eq_true h3, of_decide_eq_true h4, h5⟩
  unfold oexO at h1
  split at h1
  · rename_i dd cd sl ho
    split at h1
    · rename_i C' bm k0 k1 k2 k3 n k5 hm hs
      simp only [Bool.and_eq_true, beq_iff_eq, Bool.not_eq_true'] at h1
      obtain ⟨⟨rfl, rfl⟩, ⟨hdel, hdct⟩, ht⟩ := h1
      obtain ⟨nm, bs, mro, ns, qn, hd, sn, sub, ab, col, del⟩ := cd
      dsimp only at hm hdel hdct
      subst hm hdel hdct
      have hsl : sl = #[k0, k1, k2, k3, some (.builtin "ValueError.__new__"), k5] := by
        obtain ⟨l⟩ := sl
        simp only at hs
        rw [hs]
      subst hsl
      exact ⟨nm, qn, ns, bs, bm, sn, sub, ab, col, dd, k0, k1, k2, k3, k5, ho, ht⟩
    · cases h1
  · cases h1
def excB (K : PySem.W.Frag) (x f : Str) : Bool := oexB K (He.ga K x) && (xfB K (He.ga K x) && (He.eqO (PySem.W.findIn K (.ref (He.ga K x)) f) (some none) && (He.eqO (PySem.W.findIn K (.ref (He.ga K x)) "__init__") (some (some (.ref (He.ma K (He.ga K x) "__init__")))) && decide (PySem.W.typeIn K (.ref (He.ma K (He.ga K x) "__init__")) = some (.type "function")))))
structure ExcF (K : PySem.W.Frag) (x f : Str) : Prop where
  o : OexC K (He.ga K x)
  xf : XfC K (He.ga K x)
  no : PySem.W.findIn K (.ref (He.ga K x)) f = some none
  init : PySem.W.findIn K (.ref (He.ga K x)) "__init__" = some (some (.ref (He.ma K (He.ga K x) "__init__")))
  fn : PySem.W.typeIn K (.ref (He.ma K (He.ga K x) "__init__")) = some (.type "function")
theorem excB_ok {K : PySem.W.Frag} {x f : Str} (h : excB K x f = true) : ExcF K x f := by
  unfold excB at h
  simp only [Bool.and_eq_true] at h
  obtain ⟨h1, h2, h3, h4, h5⟩ := h
  exact ⟨oexB_ok h1, xfB_ok h2, He.eqO_ok h3, He.eqO_ok h4, of_decide_eq_true h5⟩
end DL
set_option Elab.async false
set_option linter.all false
set_option maxRecDepth 100000
set_option maxHeartbeats 4000000
namespace DL
open PySem PySem.Spec PyProof.Rows L2
theorem su_mono {X : Cx} {su : List Stmt} {th : Addr → Value → Option Addr → TDS} (hsu : ∀ (a : Addr) (oe : Obj) (cls : Value) (d : Option Addr) (pn : List (Addr × Obj)), Zc cls d oe → (∃ vs, oe.data = .fields vs) → PDSs (X.suite a ((a, oe) :: pn)) su (th a cls d)) : ∀ a c d, MonoS (th a c d) := fun a c d =>
  (hsu a { cls := c, dict := d, data := .fields #[] } c d [] ⟨rfl, rfl⟩ ⟨_, rfl⟩).mono
section
variable {X : Cx} {x n : Str} {i : Nat} {c : Value} {th : Addr → Value → Option Addr → TDS} {s0 : Stmt} {su : List Stmt} {np hp pos : Pos} {hs : List ExceptHandler} {h0 : ExceptHandler} {l : List ClD} {body : List Stmt} {tb : TDS}
theorem cl_bare (hc : Names X x c) (hsu : ∀ (a : Addr) (oe : Obj) (cls : Value) (d : Option Addr) (pn : List (Addr × Obj)), Zc cls d oe → (∃ vs, oe.data = .fields vs) → PDSs (X.suite a ((a, oe) :: pn)) (s0 :: su) (th a cls d)) (r : ClsD X hs l) :
    ClsD X (.ExceptHandler (some (.Name x np)) none (s0 :: su) hp :: hs) (⟨c, none, th⟩ :: l) := .bare hc hsu (su_mono hsu) r
theorem cl_named (hi : X.N[i]? = some n) (hl : X.env.kindOf n = some .local) (hc : Names X x c) (hsu : ∀ (a : Addr) (oe : Obj) (cls : Value) (d : Option Addr) (pn : List (Addr × Obj)), Zc cls d oe → (∃ vs, oe.data = .fields vs) → PDSs (X.suite a ((a, oe) :: pn)) (s0 :: su) (th a cls d)) (r : ClsD X hs l) :
    ClsD X (.ExceptHandler (some (.Name x np)) (some n) (s0 :: su) hp :: hs) (⟨c, some i, th⟩ :: l) := .named hi hl hc hsu (su_mono hsu) r
theorem pds_tryC (hst : X.stack = X.env :: X.outer) (hfr : X.env.frame = some X.env.locals) (hN : X.N.Nodup)
    (hb : ∀ (pn : List (Addr × Obj)) (xe : Value → Shared → Prop), PassesOwn (model X.prog X.w) X.A X.env xe → PDSs (X.tr pn xe) body tb) (hc : ClsD X (h0 :: hs) l) : PDS X (.Try body (h0 :: hs) [] [] pos) (tdTry X.K tb l) :=
  pds_try hst hfr hN hb (hb [] (fun _ _ => False) PassesOwn.never).mono hc
end
theorem ExcX.of {P : Program} {w : World} {K : PySem.W.Frag} {mg : Str → Option Value} {base : Heap} {x f qual x1 x2 : Str} {st : Stmt} {fd : FuncData} (E : ExcF K x f) (hm : mg x = some (.ref (He.ga K x))) (F : Fun K "__init__" qual st (He.ma K (He.ga K x) "__init__") fd) (S : FnScope [x1, x2] [x1, x2] (defScope st)) (hbd : Binds K fd [x1, x2] [])
    (hb : ∀ (f' : Addr) (cdv : Value) (A : Around) (outer : List Env) (s : Shared) (H : Hp) (E' : XK), PSs (cxOf CX0 P w K mg base [x1, x2] qual (defScope st) f' cdv A outer s H E').nox (defBody st) (tOst K f (tVar 0) (tVar 1))) : ExcX P w K mg base 1 (He.ga K x) x f := by
  refine ⟨E.o, hm, E.no, _, fd, _, E.init, E.fn, F.ok S (fun vs H Q E h => ?_) fun cdv A outer s H vs Q E' hr want => ⟨_, hb _ cdv A outer s H E', ?_⟩, hbd⟩
  · obtain ⟨a, y, rfl, _⟩ := h; rfl
  · obtain ⟨a, y, rfl, e, q⟩ := want
    exact ⟨_, rfl, _, rfl, a, _, rfl, E.o, E.no, .inl ⟨e, fun dx h1 h2 => q dx h1 h2⟩⟩
end DL
set_option Elab.async false
set_option linter.all false
set_option maxRecDepth 100000
set_option maxHeartbeats 4000000
namespace DL
open PySem PySem.Spec PyProof.Rows L2
def Col.at_ (c : Col) (r rows : Int) : Fm := if r = -1 then c.h else if r = rows then c.f else c.b
def Ck : Nat → Nat
  | 0 => 400
  | n + 1 => 6 * (Ck n + 2) + 152
theorem Ck_mono : ∀ {m n : Nat}, m ≤ n → Ck m ≤ Ck n := by
  intro m n h
  induction h with
  | refl => exact Nat.le_refl _
  | step _ ih => show _ ≤ 6 * (Ck _ + 2) + 152; omega
theorem cost_part {c : D} (h : isPart c = true) : costD c ≤ 110 := by
  rcases part_cases h with rfl | ⟨i, rfl⟩ | ⟨i, rfl, _⟩ <;> exact Nat.le_of_ble_eq_true rfl
theorem cost_row {c : D} (h : isRow c = true) : costD c ≤ 130 := by
  rcases row_cases h with ⟨w, rfl, h2⟩ | ⟨w, i, rfl, h2⟩
  · rcases in_two h2 with rfl | rfl <;> exact Nat.le_of_ble_eq_true rfl
  · clear h
    rcases h2 with rfl | ⟨rfl, _⟩ <;> exact Nat.le_of_ble_eq_true rfl
theorem cost_lim {c : D} (h : isLim c = true) : costD c ≤ 80 := by
  rcases lim_cases h with rfl | ⟨i, rfl⟩ <;> exact Nat.le_of_ble_eq_true rfl
theorem cost_nm {c r : D} (h : (Rd.nm c r).ok) : costD (.tup [.str "name", c, r]) ≤ 330 := by
  have h1 := cost_part h.1
  have h2 := cost_row h.2
  have e : costD (.tup [.str "name", c, r]) = 44 + (costD c + 2 + (costD r + 2 + 0)) + 3 := rfl
  omega
theorem cost_rg {c a b : D} (h : (Rd.rg c a b).ok) : costD (.tup [.str "rows", c, a, b]) ≤ 330 := by
  have h1 := cost_part h.1
  have h2 := cost_lim h.2.1
  have h3 := cost_lim h.2.2
  have e : costD (.tup [.str "rows", c, a, b]) = 44 + (costD c + 2 + (costD a + 2 + (costD b + 2 + 0))) + 3 := rfl
  omega
mutual
theorem cost_fm {p : Str} : ∀ f : Fm, f.dr p → costD f.d ≤ Ck f.hgt
  | .num i, h => by rw [Fm.hgt, Fm.d]; exact Nat.le_of_ble_eq_true rfl
  | .emp, h => by rw [Fm.hgt, Fm.d]; exact Nat.le_of_ble_eq_true rfl
  | .inp, h => by rw [Fm.hgt, Fm.d]; exact Nat.le_of_ble_eq_true rfl
  | .nm c r, h => by
    rw [Fm.dr] at h; rw [Fm.hgt, Fm.d]
    have := cost_nm h.ok
    show _ ≤ 400; omega
  | .rg w c a b, h => by
    rw [Fm.dr] at h; rw [Fm.hgt, Fm.d]
    have z := cost_rg h.ok
    have e : costD (.str w.s) ≤ 52 := by cases w <;> exact Nat.le_of_ble_eq_true rfl
    show costD (.str w.s) + 2 + (costD (.tup [.str "rows", c, a, b]) + 2 + 0) + 3 ≤ 400
    omega
  | .node g xs, h => by
    rw [Fm.dr] at h; rw [Fm.hgt, Fm.d]
    have z := cost_fmA xs h.2.2.2
    have m : xs.length * (Ck (hgtA xs) + 2) ≤ 6 * (Ck (hgtA xs) + 2) := Nat.mul_le_mul_right _ h.2.2.1
    show _ ≤ 6 * (Ck (hgtA xs) + 2) + 152
    cases g with
    | mn w =>
      have e : costD (.str w.s) ≤ 52 := by cases w <;> exact Nat.le_of_ble_eq_true rfl
      show costD (.str w.s) + 2 + (costA (fdA xs) + 3 + 2 + 0) + 3 ≤ _
      omega
    | tm i => show 54 + (80 + 2 + costA (fdA xs)) + 3 ≤ _; omega
    | ov => show 44 + costA (fdA xs) + 3 ≤ _; omega
    | cs s =>
      have e : costD (.str s.s) ≤ 22 := by cases s <;> exact Nat.le_of_ble_eq_true rfl
      obtain ⟨a, b, c, d, rfl⟩ := h.2.1
      have e2 : hdD (.cs s) (fdA [a, b, c, d]) = .tup (.str "case" :: a.d :: .str s.s :: fdA [b, c, d]) := by simp only [fdA, hdD]
      rw [e2]
      have e3 : costA (fdA [a, b, c, d]) = costD a.d + 2 + costA (fdA [b, c, d]) := by rw [fdA]; rfl
      show 44 + (costD a.d + 2 + (costD (.str s.s) + 2 + costA (fdA [b, c, d]))) + 3 ≤ _
      omega
theorem cost_fmA {p : Str} : ∀ xs : List Fm, drA p xs → costA (fdA xs) ≤ xs.length * (Ck (hgtA xs) + 2)
  | [], _ => by rw [fdA]; exact Nat.zero_le _
  | x :: xs, h => by
    rw [drA] at h
    have h1 := cost_fm x h.1
    have h2 := cost_fmA xs h.2
    rw [fdA, hgtA, List.length_cons, Nat.succ_mul]
    show costD x.d + 2 + costA (fdA xs) ≤ _
    have m1 := Ck_mono (Nat.le_max_left x.hgt (hgtA xs))
    have m2 := Ck_mono (Nat.le_max_right x.hgt (hgtA xs))
    have m3 : xs.length * (Ck (hgtA xs) + 2) ≤ xs.length * (Ck (max x.hgt (hgtA xs)) + 2) := Nat.mul_le_mul_left _ (by omega)
    omega
end
theorem WholeF.bs2 {p : Str} {f : Fm} (h : WholeF p f) : Bs 600000 20 f.d := by
  refine ⟨h.bs.plain, h.bs.small, ?_, h.bs.depth, h.bs.dict, h.bs.nol, h.bs.lay⟩
  rcases h with ⟨rfl, _⟩ | h
  · rw [Fm.d]; exact Nat.le_of_ble_eq_true rfl
  · exact Nat.le_trans (cost_fm f h.dr) (Nat.le_trans (Ck_mono h.hgt) (by decide))
theorem Col.Good.bs {c : Col} (g : c.Good) : Bs 1800009 21 c.d := by
  refine (bs_tup (c := 600000) (h := 20) (xs := [c.h.d, c.b.d, c.f.d]) fun x hx => ?_).mono (by simp only [List.length_cons, List.length_nil]; omega) (by decide)
  simp only [List.mem_cons, List.not_mem_nil, or_false] at hx
  rcases hx with rfl | rfl | rfl
  · exact WholeF.bs2 g.h
  · exact WholeF.bs2 g.b
  · exact WholeF.bs2 g.f
end DL
set_option Elab.async false
set_option linter.all false
set_option maxRecDepth 100000
set_option maxHeartbeats 4000000
namespace DL
open PySem PySem.Spec PyProof.Rows L2
def del (H : Hp) (a : Addr) : Hp := fun b => if b = a then none else H b
theorem del_same {H : Hp} {a : Addr} : del H a a = none := if_pos rfl
theorem del_ne {H : Hp} {a b : Addr} (h : b ≠ a) : del H a b = H b := if_neg h
theorem del_some {H : Hp} {a b : Addr} {o : HO} (h : del H a b = some o) : b ≠ a ∧ H b = some o := by
  by_cases e : b = a
  · subst e; rw [del_same] at h; cases h
  · rw [del_ne e] at h; exact ⟨e, h⟩
theorem upd_del {H : Hp} {a : Addr} {o : HO} (h : H a = some o) : upd (del H a) a o = H := by
  funext b
  by_cases e : b = a
  · subst e; rw [upd_same, h]
  · rw [upd_ne e, del_ne e]
section
variable {K : PySem.W.Frag} {B : Bg K} {H0 G0 H H' G G' : Hp} {σ : L2.St} {δ : List Sl}
theorem Rel.del (R : Rel K B H0 G0 H σ δ G) {a : Addr} (h0 : H0 a = none) (ga : G a = none) (nb : NotB B a) (no : ∀ i, ¬ Own σ δ i a) : Rel K B H0 G0 (del H a) σ δ G := by
  refine ⟨fun b x e => by rw [del_ne (ne_of_none e ga)]; exact R.sub _ _ e, R.g0, fun b x e n => by rw [del_ne (ne_of_none e h0)]; exact R.ent b x e n, R.len, fun i s e => ?_, R.sep, R.own, fun b c e => ?_, R.gn, fun b x e => R.sz b x (del_some e).2, R.hd⟩
  · rcases R.sl i s e with z | ⟨v, ev, ok⟩
    · exact .inl z
    · refine .inr ⟨v, ev, ?_⟩
      cases io : s.isOwn with
      | false => cases s <;> first | exact ok | cases io
      | true =>
        obtain ⟨b, eb, gb, h⟩ := ok.own io
        have ne : b ≠ a := fun z => no i (z ▸ ⟨eb ▸ ev, _, e, io⟩)
        have h2 := h.up (H' := DL.del H a) (fun o q => by rw [del_ne ne]; exact q) (Same.refl _)
        cases s <;> first | exact ⟨b, eb, gb, h2⟩ | cases io
  · have ne : b ≠ a := fun z => nb c (z ▸ e)
    exact (R.bag b c e).up (del_ne ne) (Same.refl _) (R.bag b c e).gn
theorem Rel.undel (R : Rel K B H0 G0 (DL.del H a) σ δ G) {o : HO} (ha : H a = some o) (so : SzO o) : Rel K B H0 G0 H σ δ G := by
  have z := R.laidO (p := a) (o := o) del_same so
  rw [upd_del ha] at z
  exact z
theorem set_self {α : Type} {l : List α} {i : Nat} {a : α} (h : l[i]? = some a) : l.set i a = l := by
  apply List.ext_getElem?
  intro j
  by_cases e : i = j
  · subst e
    rw [List.getElem?_set_self (List.getElem?_eq_some_iff.mp h).1, h]
  · rw [List.getElem?_set_ne e]
theorem Rel.oL (R : Rel K B H0 G0 H σ δ G) {i : Nat} {x : Addr} {ds : List D} (e : δ[i]? = some (.oL x ds)) : ∃ xs, σ[i]? = some (some (.ref x)) ∧ Own σ δ i x ∧ H x = some (.lst xs) ∧ DdA K G xs ds := by
  rcases R.sl i _ e with z | ⟨v, ev, a, rfl, ga, rfl, xs, h1, h2⟩
  · cases z
  · exact ⟨xs, ev, ⟨ev, _, e, rfl⟩, h1, h2⟩
theorem Rel.unslot (R : Rel K B H0 G0 H σ δ G) {j : Nat} {x : Addr} (o : Own σ δ j x) : Rel K B H0 G0 H σ (δ.set j .no) G ∧ ∀ i, ¬ Own σ (δ.set j .no) i x := by
  refine ⟨R.reslot rfl (.inl rfl), fun i ⟨e, s, e2, io⟩ => ?_⟩
  rcases getSet e2 with ⟨h1, h2, h3⟩ | ⟨h1, h2⟩ | ⟨_, _, h⟩
  · subst h3; cases io
  · exact h1 (R.sep j i x o ⟨e, s, h2, io⟩)
  · exact h.elim
end
abbrev TM := List Sl → List D → (Sl → List D → Prop) → Prop
def MonoM (t : TM) : Prop := ∀ rs L (Q Q' : Sl → List D → Prop), t rs L Q → (∀ r L', Q r L' → Q' r L') → t rs L Q'
structure RetM (K : PySem.W.Frag) (B : Bg K) (H G H' G' : Hp) (a : Addr) (v : V) (r : Sl) (L' : List D) : Prop where
  rk : RetOk K B (del H a) G H' G' v r
  la : ∃ xs, H' a = some (.lst xs) ∧ DdA K G' xs L'
  ga : G' a = none
  va : r.isOwn = true → v ≠ .ref a
def spM (K : PySem.W.Frag) (n : Nat) (t : TM) : Sp := fun vs H Q _ => ∃ ws a B G rs L, vs = ws ++ [.ref a] ∧ ws.length = n ∧ Same G H ∧ (∀ b c, (b, c) ∈ B → BagOk H G b c) ∧ HSz H ∧ ArgsOk K B G ws rs ∧ G a = none ∧ NotB B a ∧ (∃ xs, H a = some (.lst xs) ∧ DdA K G xs L) ∧
  t rs L (fun r L' => ∀ v H' G', RetM K B H G H' G' a v r L' → Q v H')
section
variable {K : PySem.W.Frag} {B : Bg K} {H0 G0 H H' G G' : Hp} {σ : L2.St} {δ : List Sl}
theorem rel_startM {N : List Str} {ws : List V} {rs : List Sl} {x : Addr} {xs : List V} {L : List D} (hx : H x = some (.lst xs)) (hA : DdA K G xs L) (gx : G x = none) (nx : NotB B x) (sub : Same G H) (bag : ∀ b c, (b, c) ∈ B → BagOk H G b c) (sz : HSz H) (oks : ArgsOk K B G ws rs) (hn : ws.length < N.length) :
    Rel K B (DL.del H x) G H (start N (ws ++ [.ref x])) (startD N (rs ++ [.oL x L])) G := by
  have el := oks.len
  have R1 : Rel K B (DL.del H x) G (DL.del H x) (start N ws) (startD N rs) G := rel_start (fun b o e => by rw [del_ne (ne_of_none e gx)]; exact sub _ _ e) (fun b c e => (bag b c e).up (del_ne fun z => nx c (z ▸ e)) (Same.refl _) (bag b c e).gn) (fun b o e => sz b o (del_some e).2) oks
  obtain ⟨h1, h2, h3⟩ := R1.newOwn (p := x) del_same
  have R2 := R1.undel hx (sz _ _ hx)
  have R3 := R2.assign (v := .ref x) (r := .oL x L) ⟨⟨x, rfl, gx, rfl, xs, hx, hA⟩, (fun z => nomatch z), fun _ b e => by cases e; exact ⟨h1, h2, h3⟩⟩ ws.length
  have e1 : (start N ws).set ws.length (some (.ref x)) = start N (ws ++ [.ref x]) := by
    unfold L2.start
    have e : N.length - ws.length = (N.length - (ws ++ [V.ref x]).length) + 1 := by rw [List.length_append, List.length_singleton]; omega
    rw [List.map_append, e, List.replicate_succ, List.set_append_right _ _ (by rw [List.length_map]; exact Nat.le_refl _), List.length_map, Nat.sub_self, List.append_assoc]
    rfl
  have e2 : (startD N rs).set ws.length (.oL x L) = startD N (rs ++ [.oL x L]) := by
    unfold startD
    have e : N.length - rs.length = (N.length - (rs ++ [Sl.oL x L]).length) + 1 := by rw [List.length_append, List.length_singleton]; omega
    rw [e, List.replicate_succ, List.set_append_right _ _ (by omega), show ws.length - rs.length = 0 by omega, List.append_assoc]
    rfl
  rw [e1, e2] at R3
  exact R3
end
end DL
set_option Elab.async false
set_option linter.all false
set_option maxRecDepth 100000
set_option maxHeartbeats 4000000
namespace DL
open PySem PySem.Spec PyProof.Rows L2
def AftM (K : PySem.W.Frag) (B : Bg K) (H0 G0 : Hp) (σ : L2.St) (G : Hp) (Q : VK) : QD := fun r δ' => ∀ v H' G', Rel K B H0 G0 H' σ δ' G' → Same G G' → ResOk K B H0 H' σ δ' G' v r → Q v H'
def tyM (K : PySem.W.Frag) (t : TD) : TE := fun σ H Q => ∃ B H0 G0 δ G, Rel K B H0 G0 H σ δ G ∧ t δ (AftM K B H0 G0 σ G Q)
structure PDM (X : Cx) (e : Expr) (t : TD) : Prop where
  pe : PE X e (tyM X.K t)
  mono : MonoD t
def AftMA (K : PySem.W.Frag) (B : Bg K) (H0 G0 : Hp) (σ : L2.St) (G : Hp) (Q : List V → Hp → Prop) : List Sl → List Sl → Prop := fun rs δ' => ∀ vs H' G', Rel K B H0 G0 H' σ δ' G' → Same G G' → ArgsOk K B G' vs rs → Q vs H'
def tyMA (K : PySem.W.Frag) (t : TDA) : TA := fun σ H Q => ∃ B H0 G0 δ G, Rel K B H0 G0 H σ δ G ∧ t δ (AftMA K B H0 G0 σ G Q)
structure PDMA (X : Cx) (es : List Expr) (t : TDA) : Prop where
  pa : PA X es (tyMA X.K t)
  mono : MonoA t
end DL
set_option Elab.async false
set_option linter.all false
set_option maxRecDepth 100000
set_option maxHeartbeats 4000000
namespace DL
open PySem PySem.Spec PyProof.Rows L2
structure FnM (P : Program) (w : World) (K : PySem.W.Frag) (mg : Str → Option Value) (base : Heap) (k : Nat) (x : Str) (n : Nat) (t : TM) : Prop where
  ex : ∃ f fd ps, FnOk P w K mg base CX0 k f fd ps (spM K n t) ∧ mg x = some (.ref f) ∧ PySem.W.keepIn K (.ref f) = true ∧ Binds K fd ps []
  mono : MonoM t
  len : ∀ rs L Q, t rs L Q → rs.length = n
def endM (Q : Sl → List D → Prop) (x : Addr) (n : Nat) (r : Sl) (δ : List Sl) : Prop := ∃ L, δ[n]? = some (.oL x L) ∧ Q r L
section
variable {P : Program} {w : World} {K : PySem.W.Frag} {mg : Str → Option Value} {base : Heap} {x : Str} {st : Stmt} {N ps : List Str} {k n : Nat} {t : TM}
theorem FnM.of (D0 : Dfn K mg x st ps) (S : FnScope N ps (defScope st)) (hn : ps.length = n + 1) (hN : n < N.length) (mt : MonoM t) (ln : ∀ rs L Q, t rs L Q → rs.length = n)
    (hb : ∀ (f : Addr) (cdv : Value) (A : Around) (outer : List Env) (s : Shared) (H : Hp) (E : XK), Room k (A.deeper (envOfC x (defScope st) s.heap.objs.size f cdv)) →
      ∃ tS, PDSs (cxOf CX0 P w K mg base N x (defScope st) f cdv A outer s H E).nox (defBody st) tS ∧ ∀ a rs L (Q : Sl → List D → Prop), t rs L Q → tS { nx := fun _ => False, rt := endM Q a n } (startD N (rs ++ [.oL a L]))) :
    FnM P w K mg base (k + 1) x n t := by
  obtain ⟨f, fd, F, hm, hbd⟩ := D0.ex
  refine ⟨⟨f, fd, ps, ?_, hm, F.kp, hbd⟩, mt, ln⟩
  refine F.ok S (fun vs H Q E h => by obtain ⟨ws, a, B, G, rs, L, rfl, hl, _⟩ := h; rw [List.length_append, hl]; exact hn.symm) fun cdv A outer s H vs Q E hr want => ?_
  obtain ⟨tS, h, le⟩ := hb f cdv A outer s H E hr
  refine ⟨_, h.ps, ?_⟩
  obtain ⟨ws, a, B, G, rs, L, rfl, hl, sub, bag, sz, oks, ga, nb, ⟨xs, hx, hA⟩, q⟩ := want
  refine ⟨B, _, G, _, G, rel_startM hx hA ga nb sub bag sz oks (by omega), h.mono _ _ _ ?_ (le a rs L _ q)⟩
  refine ⟨fun _ q => q.elim, fun r δ q v σ' H' G' R' ok => ?_, fun _ q => q.elim, fun _ q => q.elim, fun _ _ _ _ q => q.elim⟩
  obtain ⟨L', e, q⟩ := q
  obtain ⟨xs', ev, oa, hx', hA'⟩ := R'.oL e
  refine q v H' G' ⟨⟨R'.g0, R'.sub, R'.bag, fun b o e n => R'.ent b o e n, R'.sz, R'.gn, ok.1, ok.2.1, fun io b e => (ok.2.2 io b e).1⟩, ⟨xs', hx', hA'⟩, (R'.own _ _ oa).2.1, fun io e => ?_⟩
  exact (ok.2.2 io a e).2.2 _ oa
end
end DL
set_option Elab.async false
set_option linter.all false
set_option maxRecDepth 100000
set_option maxHeartbeats 4000000
namespace DL
open PySem PySem.Spec PyProof.Rows L2
end DL
set_option Elab.async false
set_option linter.all false
set_option maxRecDepth 100000
set_option maxHeartbeats 4000000
namespace DL
open PySem PySem.Spec PyProof.Rows L2
theorem zs_vals {K : PySem.W.Frag} {G : Hp} : ∀ (k : Nat) (a : Int), DdA K G ((List.range k).map fun i => V.int (a + (i : Nat))) (zs a k)
  | 0, a => .nil
  | k + 1, a => by
    rw [List.range_succ_eq_map, List.map_cons, List.map_map]
    refine .cons ?_ ?_
    · rw [show a + ((0 : Nat) : Int) = a by omega]; exact .int a
    · have z := zs_vals (K := K) (G := G) k (a + 1)
      have e : ((fun i => V.int (a + (i : Nat))) ∘ Nat.succ) = fun i : Nat => V.int (a + 1 + (i : Nat)) := by
        funext i
        show V.int (a + ((i + 1 : Nat) : Int)) = _
        rw [show a + ((i + 1 : Nat) : Int) = a + 1 + (i : Int) by omega]
      rw [e]
      exact z
def tdLstR (ta : TD) : TD := fun δ Q => ta δ fun r δ' => match r with
  | .dt (.int n) => RgOk 0 n ∧ Q (.ol (zs 0 n.toNat)) δ'
  | _ => False
section
variable {X : Cx} {a : Expr} {p pos p1 pos1 : Pos} {ta : TD}
theorem pd_listR (hc : X.calm = true) (hg : Gl X "list") (hm : X.mg "list" = none) (hg2 : Gl X "range") (hm2 : X.mg "range" = none) (ha : PD X a ta)
    (na : starEach [a] X.env = (false, eval a X.env) :: starEach [] X.env := by rfl)
    (nb : starEach [.Call (.Name "range" p1) [a] [] pos1] X.env = (false, eval (.Call (.Name "range" p1) [a] [] pos1) X.env) :: starEach [] X.env := by rfl) :
    PD X (.Call (.Name "list" p) [.Call (.Name "range" p1) [a] [] pos1] [] pos) (tdLstR ta) := by
  refine ⟨PE.weak (pe_listRg hc hg hm (prg_1 hg2 hm2 ha.pe na) nb) fun σ H Q ⟨B, H0, G0, δ, G, R, q⟩ => ?_, fun δ Q Q' q w => ha.mono _ _ _ q fun r δ1 q => ?_⟩
  · refine ⟨B, H0, G0, δ, G, R, ha.mono _ _ _ q fun r δ1 q v H1 G1 R1 s1 f1 ok => ?_⟩
    split at q
    · rename_i n
      cases ok.1
      refine ⟨n, rfl, q.1, fun l hl => ?_⟩
      have hz := q.1.2.2.2.2
      have e0 : rgV 0 n = (List.range n.toNat).map fun i => V.int (0 + (i : Nat)) := by
        unfold rgV
        rw [Int.sub_zero]
      have hd : DdA X.K G1 (rgV 0 n) (zs 0 n.toNat) := by rw [e0]; exact zs_vals _ _
      exact aft_own (s := .ol (zs 0 n.toNat)) R1 hl (show (rgV 0 n).length ≤ sizeLine by rw [rgV_length, sizeLine_eq]; omega) rfl ⟨_, upd_same, hd⟩ (aft_step s1 f1 _ _ q.2)
    · exact q.elim
  · split at q
    · exact ⟨q.1, w _ _ q.2⟩
    · exact q
end
end DL
set_option Elab.async false
set_option linter.all false
set_option maxRecDepth 100000
set_option maxHeartbeats 4000000
namespace DL
open PySem PySem.Spec PyProof.Rows L2
end DL
set_option Elab.async false
set_option linter.all false
set_option maxRecDepth 100000
set_option maxHeartbeats 4000000
namespace DL
open PySem PySem.Spec PyProof.Rows L2
abbrev TV := List Sl → List D → (Sl → Prop) → Prop
def MonoGv (t : TV) : Prop := ∀ rs L (Q Q' : Sl → Prop), t rs L Q → (∀ r, Q r → Q' r) → t rs L Q'
def spV (K : PySem.W.Frag) (n : Nat) (t : TV) : Sp := fun vs H Q _ => ∃ a ws B G rs L, vs = .ref a :: ws ∧ ws.length = n ∧ Same G H ∧ (∀ b c, (b, c) ∈ B → BagOk H G b c) ∧ HSz H ∧ ArgsOk K B G ws rs ∧ G a = none ∧ NotB B a ∧ (∃ xs, H a = some (.lst xs) ∧ DdA K G xs L) ∧
  t rs L (fun r => ∀ v H' G', RetOk K B (del H a) G H' G' v r → Q v H')
theorem rel_startV {K : PySem.W.Frag} {B : Bg K} {H G : Hp} {N : List Str} {ws : List V} {rs : List Sl} {x : Addr} {xs : List V} {L : List D} (hx : H x = some (.lst xs)) (hA : DdA K G xs L) (gx : G x = none) (nx : NotB B x) (sub : Same G H) (bag : ∀ b c, (b, c) ∈ B → BagOk H G b c) (sz : HSz H) (oks : ArgsOk K B G ws rs) :
    Rel K B (DL.del H x) G H (start N (.ref x :: ws)) (startD N (.ol L :: rs)) G := by
  have R1 : Rel K B (DL.del H x) G (DL.del H x) (start N (.non :: ws)) (startD N (.dt .non :: rs)) G := rel_start (fun b o e => by rw [del_ne (ne_of_none e gx)]; exact sub _ _ e) (fun b c e => (bag b c e).up (del_ne fun z => nx c (z ▸ e)) (Same.refl _) (bag b c e).gn) (fun b o e => sz b o (del_some e).2) ⟨.non, oks⟩
  obtain ⟨h1, h2, h3⟩ := R1.newOwn (p := x) del_same
  have R2 := R1.undel hx (sz _ _ hx)
  exact R2.assign (v := .ref x) (r := .ol L) ⟨⟨x, rfl, gx, xs, hx, hA⟩, (fun z => nomatch z), fun _ b e => by cases e; exact ⟨h1, h2, h3⟩⟩ 0
structure FnV (P : Program) (w : World) (K : PySem.W.Frag) (mg : Str → Option Value) (base : Heap) (k : Nat) (x : Str) (n : Nat) (t : TV) : Prop where
  ex : ∃ f fd ps, FnG P w K mg base k f fd ps (spV K n t) ∧ mg x = some (.ref f) ∧ PySem.W.keepIn K (.ref f) = true ∧ Binds K fd ps []
  mono : MonoGv t
theorem FnV.of {P : Program} {w : World} {K : PySem.W.Frag} {mg : Str → Option Value} {base : Heap} {x : Str} {st : Stmt} {N ps : List Str} {k n : Nat} {t : TV} (D0 : Dfn K mg x st ps) (S : FnScope N ps (defScope st)) (hn : ps.length = n + 1) (mt : MonoGv t)
    (hb : ∀ (f : Addr) (cdv : Value) (A : Around) (outer : List Env) (s : Shared) (H : Hp) (E : XK), Ng A → Room k (A.deeper (envOfC x (defScope st) s.heap.objs.size f cdv)) →
      ∃ tS, PDSs (cxOf CX0 P w K mg base N x (defScope st) f cdv A outer s H E).nox (defBody st) tS ∧ ∀ rs L (Q : Sl → Prop), t rs L Q → tS { nx := fun _ => False, rt := fun r _ => Q r } (startD N (.ol L :: rs))) :
    FnV P w K mg base (k + 1) x n t := by
  obtain ⟨f, fd, F, hm, hbd⟩ := D0.ex
  refine ⟨⟨f, fd, ps, ?_, hm, F.kp, hbd⟩, mt⟩
  refine fun_okG F S (fun vs H Q E h => by obtain ⟨a, ws, B, G, rs, L, rfl, hl, _⟩ := h; rw [List.length_cons, hl]; exact hn.symm) fun cdv A outer s H vs Q E gd hr want => ?_
  obtain ⟨tS, h, le⟩ := hb f cdv A outer s H E gd hr
  refine ⟨_, h.ps, ?_⟩
  obtain ⟨a, ws, B, G, rs, L, rfl, hl, sub, bag, sz, oks, ga, nb, ⟨xs, hx, hA⟩, q⟩ := want
  refine ⟨B, _, G, _, G, rel_startV hx hA ga nb sub bag sz oks, h.mono _ _ _ ?_ (le rs L _ q)⟩
  exact ⟨fun _ q => q.elim, fun r δ q v σ' H' G' R' ok => q v H' G' ⟨R'.g0, R'.sub, R'.bag, fun b o e n => R'.ent b o e n, R'.sz, R'.gn, ok.1, ok.2.1, fun io b e => (ok.2.2 io b e).1⟩, fun _ q => q.elim, fun _ q => q.elim, fun _ _ _ _ q => q.elim⟩
section
variable {X : Cx} {pins : List (Addr × Obj)} {σ : L2.St} {H G : Hp} {s : Shared}
mutual
theorem Dd.readsM (I : Inv X pins σ H s) (hs : H sysModules = none) (e : Same G H) : ∀ (d : D) (v : V) (u : Value), plainD d = true → Dd X.K G v d → RelV v u → ∃ as, Reads s.heap u (py d) as ∧ sysModules ∉ as
  | .non, _, _, _, h, r => by cases h; cases r; exact ⟨_, .none, List.not_mem_nil⟩
  | .bl b, _, _, _, h, r => by cases h; cases r; exact ⟨_, .bool b, List.not_mem_nil⟩
  | .int i, _, _, _, h, r => by cases h; obtain ⟨t, rfl⟩ := r; exact ⟨_, .int i t, List.not_mem_nil⟩
  | .str x, _, _, _, h, r => by cases h; obtain ⟨t, rfl⟩ := r; exact ⟨_, .str x t, List.not_mem_nil⟩
  | .lst ds, _, _, c, h, r => by
    cases h with
    | @lst a _ _ h1 h2 =>
      cases r
      obtain ⟨its, rv, ⟨o, n, ho, hc, _, hd⟩, _⟩ := I.list (SqL.of (e _ _ h1))
      obtain ⟨as, hr, hn⟩ := DdA.readsM I hs e ds _ its c h2 rv
      refine ⟨_, .list ho hc hd hr, fun z => ?_⟩
      rcases List.mem_cons.mp z with y | y
      · rw [y, e _ _ h1] at hs; cases hs
      · exact hn y
  | .tup ds, _, _, c, h, r => by
    cases h with
    | tup h1 h2 =>
      cases r
      obtain ⟨its, rv, ⟨o, ho, hc, n, hd⟩, _⟩ := I.tuple (sameT e h1)
      obtain ⟨as, hr, hn⟩ := DdA.readsM I hs e ds _ its c h2 rv
      exact ⟨_, .tuple ho hc hd hr, hn⟩
  | .dK ks ds, _, _, c, h, r => by
    cases h with
    | @dK a _ xs _ h0 h1 h2 =>
      cases r
      obtain ⟨_, sm, vs, kv, o, es, ep, ho, hx, hd, _, hp, _⟩ := rd_of I.hok (rdS e h1)
      obtain ⟨z1, z2⟩ := kv_split h0 kv
      have c2 : plainA ds = true := by
        have c' : (decide (ks.length = ds.length) && plainA ds) = true := c
        rw [Bool.and_eq_true] at c'
        exact c'.2
      obtain ⟨as, hr, hn⟩ := DdA.readsM I hs e ds _ (vs.map (·.2)) c2 h2 z2
      have k1 := key_reads (h := s.heap) hp
      have k2 : (vs.map fun p => keyPy p.1) = ks.map keyPy := by rw [← z1, List.map_map]; rfl
      rw [k2] at k1
      have l1 : (ks.map keyPy).length = (pyA ds).length := by rw [pyA_map, List.length_map, List.length_map, h0, h2.len]
      refine ⟨_, Reads.dict (kvs := (ks.map keyPy).zip (pyA ds)) ho hx.1 hd (as := []) (bs := as) ?_ ?_, fun hm => ?_⟩
      · rw [List.map_fst_zip (Nat.le_of_eq l1)]; exact k1
      · rw [List.map_snd_zip (Nat.le_of_eq l1.symm), val_eq hp]; exact hr
      · have hm2 : sysModules ∈ a :: as := by simpa using hm
        rcases List.mem_cons.mp hm2 with z | z
        · rw [← z] at sm
          exact absurd sm (by decide)
        · exact hn z
  | .dT _ _, _, _, c, _, _ => by cases c
  | .dL _ _, _, _, c, _, _ => by cases c
  | .ins _ _ _, _, _, c, _, _ => by cases c
theorem DdA.readsM (I : Inv X pins σ H s) (hs : H sysModules = none) (e : Same G H) : ∀ (ds : List D) (vs : List V) (us : List Value), plainA ds = true → DdA X.K G vs ds → Vals vs us → ∃ as, ReadsAll s.heap us (pyA ds) as ∧ sysModules ∉ as
  | [], _, _, _, h, r => by cases h; cases r; exact ⟨_, .nil, List.not_mem_nil⟩
  | d :: ds, _, _, c, h, r => by
    cases h with
    | cons h1 h2 =>
      cases r with
      | cons r1 r2 =>
        have c' : (plainD d && plainA ds) = true := c
        rw [Bool.and_eq_true] at c'
        obtain ⟨as, hr, hn⟩ := Dd.readsM I hs e d _ _ c'.1 h1 r1
        obtain ⟨bs, hr2, hn2⟩ := DdA.readsM I hs e ds _ _ c'.2 h2 r2
        refine ⟨_, .cons hr hr2, fun hm => ?_⟩
        rcases List.mem_append.mp hm with q | q
        · exact hn q
        · exact hn2 q
end
end
structure ShowM (d : D) : Prop where
  plain : plainD d = true
  nums : (py d).showable = true
  len : (py d).shown.length ≤ sizeLine
  depth : (py d).depth ≤ 100
theorem showM_of {d : D} (h1 : plainD d = true) (h2 : smallD d) (h3 : costD d ≤ sizeLine) (h4 : (py d).depth ≤ 100) : ShowM d :=
  ⟨h1, (costD_ok d h2).2, Nat.le_trans (costD_ok d h2).1 h3, h4⟩
def rReprM (K : PySem.W.Frag) : List V → Hp → VK → Prop := fun vs H Q => ∃ v d G, vs = [v] ∧ Same G H ∧ Dd K G v d ∧ ShowM d ∧ Q (.str (py d).shown) H
section
variable {X : Cx}
theorem call_reprM (sm : (X.K.lookup sysModules).isSome = true) (hg : Ng X.A) (hu : X.A.units + 150 < cLine) : CallR X (.builtin "repr") (rReprM X.K) := by
  intro pins s σ H xs us Q I r h
  obtain ⟨v, d, G, rfl, sub, hd, ok, q⟩ := h
  obtain ⟨u, rfl, rv⟩ := vals1 r
  have fin : ∀ (h' : Heap) (w : Tok) (tk : Tok), (∀ b o, s.heap.get? b = some o → h'.get? b = some o) → EP X pins σ Q (.str (py d).shown w) { s with heap := h', toks := tk } :=
    fun h' w tk hk => ⟨.str _, H, I.kept (t' := tk) hk, ⟨w, rfl⟩, q⟩
  have hs : H sysModules = none := by
    obtain ⟨ob, eo⟩ := Option.isSome_iff_exists.mp sm
    exact (I.bs _ _ (I.mod.kin _ _ eo)).2
  have big : ∀ a, u = .ref a → wpAny (model X.prog X.w) X.A (call (.builtin "repr") [u]) (EP X pins σ Q) X.xe s := by
    rintro a rfl
    obtain ⟨as, rd, ns⟩ := Dd.readsM I hs sub d v _ ok.plain hd rv
    exact repr_of_reads' (h₀ := s.heap) rd ok.nums (fun _ => ns) hg (by have := ok.depth; omega) (fun _ _ e => e) (fun h' w tk hk => fin h' w tk hk) ok.len
  cases hd with
  | non => cases rv; exact PySem.P.repr_of_none (fin s.heap _ _ fun _ _ e => e)
  | bl b => cases rv; exact PySem.P.repr_of_bool (fin s.heap _ _ fun _ _ e => e)
  | int i =>
    obtain ⟨t, rfl⟩ := rv
    exact PySem.P.repr_of_int (by simpa [py, PyData.showable] using ok.nums) (fin s.heap _ _ fun _ _ e => e)
  | str x =>
    obtain ⟨t, rfl⟩ := rv
    exact PySem.P.repr_of_str (fin s.heap _ _ fun _ _ e => e) ok.len
  | lst _ _ => cases rv; exact big _ rfl
  | tup _ _ => cases rv; exact big _ rfl
  | dK _ _ _ => cases rv; exact big _ rfl
  | dT _ _ _ => cases rv; exact big _ rfl
  | dL _ _ _ => cases rv; exact big _ rfl
  | ins _ _ _ => cases rv; exact big _ rfl
def gReprM : D → List Sl → QD → Prop := fun d δ Q => ShowM d ∧ Q (.dt (.str (py d).shown)) δ
theorem pd_reprM {e : Expr} {u : TDA} {p pos : Pos} (sm : (X.K.lookup sysModules).isSome = true) (hgd : Ng X.A) (hu : X.A.units + 150 < cLine) (hg : Gl X "repr") (hm : X.mg "repr" = none) (h : PDA X [e] u) (he : starEach [e] X.env = (false, eval e X.env) :: starEach [] X.env := by rfl) (hpl : (backTo pos (starEach [] X.env)).any (·.1) = false := by rfl) :
    PD X (.Call (.Name "repr" p) [e] [] pos) (tdCB (f1 gReprM) u) :=
  pd_callB (call_reprM sm hgd hu) (mono_f1 fun d δ Q Q' q w => ⟨q.1, w _ _ q.2⟩)
    (callS_1 fun B H0 G0 H σ δ G v d Q R hd q => ⟨v, d, G, rfl, R.sub, hd, q.1, aft_here R (.str _) q.2⟩) hg hm boot_repr' h (by decide) (by decide) he hpl
end
end DL
set_option Elab.async false
set_option linter.all false
set_option maxRecDepth 100000
set_option maxHeartbeats 4000000
namespace DL
open PySem PySem.Spec PyProof.Rows L2
theorem u65 {k : Nat} {A : Around} (r : Room k A) : A.units + 65 < cLine := by have := r.un; omega
mutual
def hT : D → Nat
  | .tup xs => hTA xs + 1
  | .lst _ => 0
  | .dK _ _ => 0
  | .dT _ _ => 0
  | .dL _ _ => 0
  | .ins _ _ _ => 0
  | .non => 0
  | .bl _ => 0
  | .int _ => 0
  | .str _ => 0
def hTA : List D → Nat
  | [] => 0
  | x :: xs => max (hT x) (hTA xs)
end
theorem hTA_mem : ∀ {xs : List D} {x : D}, x ∈ xs → hT x ≤ hTA xs
  | y :: ys, x, h => by
    rw [hTA]
    rcases List.mem_cons.mp h with rfl | h
    · exact Nat.le_max_left _ _
    · exact Nat.le_trans (hTA_mem h) (Nat.le_max_right _ _)
theorem hT_tup {xs : List D} {x : D} (h : x ∈ xs) : hT x < hT (.tup xs) := by
  rw [hT]
  exact Nat.lt_succ_of_le (hTA_mem h)
theorem hTA_le : ∀ {xs : List D} {n : Nat}, (∀ x ∈ xs, hT x ≤ n) → hTA xs ≤ n
  | [], n, _ => by rw [hTA]; exact Nat.zero_le _
  | x :: xs, n, h => by
    rw [hTA]
    exact Nat.max_le.mpr ⟨h x List.mem_cons_self, hTA_le fun y hy => h y (List.mem_cons_of_mem _ hy)⟩
theorem costA_mem : ∀ {xs : List D} {x : D}, x ∈ xs → costD x + 2 ≤ costA xs
  | y :: ys, x, h => by
    rw [costA]
    rcases List.mem_cons.mp h with rfl | h
    · omega
    · have := costA_mem h; omega
theorem costA_len : ∀ xs : List D, 2 * xs.length ≤ costA xs
  | [] => Nat.zero_le _
  | y :: ys => by rw [costA, List.length_cons]; have := costA_len ys; omega
theorem plainA_mem : ∀ {xs : List D} {x : D}, plainA xs = true → x ∈ xs → plainD x = true
  | y :: ys, x, h, hm => by
    have h' : (plainD y && plainA ys) = true := h
    rw [Bool.and_eq_true] at h'
    rcases List.mem_cons.mp hm with rfl | hm
    · exact h'.1
    · exact plainA_mem h'.2 hm
theorem plainA_of : ∀ {xs : List D}, (∀ x ∈ xs, plainD x = true) → plainA xs = true
  | [], _ => rfl
  | y :: ys, h => by
    show (plainD y && plainA ys) = true
    rw [h y List.mem_cons_self, plainA_of fun x hx => h x (List.mem_cons_of_mem _ hx)]
    rfl
theorem costA_app : ∀ xs ys : List D, costA (xs ++ ys) = costA xs + costA ys
  | [], ys => by rw [costA]; simp
  | x :: xs, ys => by rw [List.cons_append, costA, costA, costA_app xs ys]; omega
structure Av (n : Nat) (d : D) : Prop where
  plain : plainD d = true
  ht : hT d < n
  cost : costD d ≤ 10000000
theorem Av.mono {m n : Nat} {d : D} (h : Av m d) (e : m ≤ n) : Av n d := ⟨h.plain, Nat.lt_of_lt_of_le h.ht e, h.cost⟩
theorem Av.mem {n : Nat} {xs : List D} (h : Av (n + 1) (.tup xs)) {x : D} (hx : x ∈ xs) : Av n x := by
  refine ⟨plainA_mem (show plainA xs = true from h.plain) hx, ?_, ?_⟩
  · have := hT_tup hx
    have := h.ht
    omega
  · have := costA_mem hx
    have h2 : costA xs + 3 ≤ 10000000 := h.cost
    omega
theorem Av.len {n : Nat} {xs : List D} (h : Av n (.tup xs)) : xs.length ≤ 5000000 := by
  have h2 : costA xs + 3 ≤ 10000000 := h.cost
  have := costA_len xs
  omega
theorem Av.tup {n : Nat} {xs : List D} (h0 : 1 ≤ n) (h1 : ∀ x ∈ xs, plainD x = true ∧ hT x < n) (h2 : costA xs + 3 ≤ 10000000) : Av (n + 1) (.tup xs) := by
  refine ⟨plainA_of fun x hx => (h1 x hx).1, ?_, h2⟩
  rw [hT]
  have := hTA_le (xs := xs) (n := n - 1) (fun x hx => by have := (h1 x hx).2; omega)
  omega
theorem Av.tail {n : Nat} {xs ys : List D} (h : Av (n + 1) (.tup (xs ++ ys))) : Av (n + 1) (.tup ys) := by
  have h2 : costA (xs ++ ys) + 3 ≤ 10000000 := h.cost
  rw [costA_app] at h2
  have h3 := h.ht
  rw [hT] at h3
  exact Av.tup (by omega) (fun x hx => ⟨(h.mem (List.mem_append_right _ hx)).plain, (h.mem (List.mem_append_right _ hx)).ht⟩) (by omega)
inductive Kd where | mn (w : W3) | tm | ov | cs | rg (w : WR) | num | emp | inp | nm | oth
def kd (k : Str) : Kd :=
  if k = "sum" then .mn .sum else if k = "most" then .mn .most else if k = "least" then .mn .least else
  if k = "times" then .tm else if k = "over" then .ov else if k = "case" then .cs else
  if k = "total" then .rg .total else if k = "many" then .rg .many else if k = "top" then .rg .top else if k = "low" then .rg .low else
  if k = "number" then .num else if k = "empty" then .emp else if k = "input" then .inp else if k = "name" then .nm else .oth
structure Oth (k : Str) : Prop where
  w3 : ∀ w : W3, k ≠ w.s
  tm : k ≠ "times"
  ov : k ≠ "over"
  cs : k ≠ "case"
  wr : ∀ w : WR, k ≠ w.s
  num : k ≠ "number"
  emp : k ≠ "empty"
  inp : k ≠ "input"
  nm : k ≠ "name"
theorem Oth.kd {k : Str} (o : Oth k) : DL.kd k = .oth := by
  unfold DL.kd
  rw [if_neg (show k ≠ ("sum" : Str) from o.w3 .sum), if_neg (show k ≠ ("most" : Str) from o.w3 .most), if_neg (show k ≠ ("least" : Str) from o.w3 .least), if_neg o.tm, if_neg o.ov, if_neg o.cs, if_neg (show k ≠ ("total" : Str) from o.wr .total), if_neg (show k ≠ ("many" : Str) from o.wr .many), if_neg (show k ≠ ("top" : Str) from o.wr .top), if_neg (show k ≠ ("low" : Str) from o.wr .low), if_neg o.num, if_neg o.emp, if_neg o.inp, if_neg o.nm]
end DL
set_option Elab.async false
set_option linter.all false
set_option maxRecDepth 100000
set_option maxHeartbeats 4000000
namespace DL
open PySem PySem.Spec PyProof.Rows L2
theorem FnX.imp {P : Program} {w : World} {K : PySem.W.Frag} {mg : Str → Option Value} {base : Heap} {k n : Nat} {x : Str} {t t' : TF} (F : FnX P w K mg base k x n t) (m : MonoF t') (l : ∀ rs Q, t' rs Q → rs.length = n) (h : ∀ rs Q, t' rs Q → t rs Q) : FnX P w K mg base k x n t' := by
  obtain ⟨f, fd, ps, h1, h2, h3, h4⟩ := F.ex
  exact ⟨⟨f, fd, ps, h1.imp fun vs H Q E ⟨e, B, G, rs, a, b, c, d, q⟩ => ⟨e, B, G, rs, a, b, c, d, h _ _ q⟩, h2, h3, h4⟩, m, l⟩
structure LD (h : Nat) (d : D) : Prop where
  lay : (py d).canLay0 = true
  dep : (py d).depth ≤ h
theorem LD.mono {m n : Nat} {d : D} (h : LD m d) (e : m ≤ n) : LD n d := ⟨h.lay, Nat.le_trans h.dep e⟩
theorem LD.shaped {n : Nat} {d : D} (h : LD n d) (e : n ≤ 64) : SeqAt.shaped (py d) = true := by
  unfold SeqAt.shaped
  rw [h.lay, decide_eq_true (Nat.le_trans h.dep e)]; rfl
def Fm.word : Fm → Str
  | .num _ => "number"
  | .emp => "empty"
  | .inp => "input"
  | .nm _ _ => "name"
  | .rg w _ _ _ => w.s
  | .node (.mn w) _ => w.s
  | .node (.tm _) _ => "times"
  | .node .ov _ => "over"
  | .node (.cs _) _ => "case"
end DL
set_option Elab.async false
set_option linter.all false
set_option maxRecDepth 100000
set_option maxHeartbeats 4000000
namespace DL
open PySem PySem.Spec PyProof.Rows L2
section
variable {X : Cx} {k : Nat} {f : Addr} {fd : FuncData} {ps : List Str} {sp : Sp}
theorem run_fnA {A : Around} {pins : List (Addr × Obj)} {σ : L2.St} {H : Hp} {s : Shared} {Q : VK} {us : List Value} {vs : List V} (F : FnOk X.prog X.w X.K X.mg X.base CX0 k f fd ps sp) (hr : Room k A) (e0 : Env0 X.prog X.w X.K X.mg X.base A X.stack s H) (hb : Binds X.K fd ps [])
    (I : Inv X pins σ H s) (r : Vals vs us) (h : sp vs H Q E0) : wpAny (model X.prog X.w) A (call (.ref f) us) (EP X pins σ Q) X.xe s := by
  have hl : us.length = ps.length := by rw [← r.length]; exact F.len _ _ _ _ h
  have b := hb s us I.kIn (by rw [List.append_nil]; exact hl)
  rw [List.append_nil] at b
  refine wpAny_call (codeAny_mono (F.run A X.stack s H ⟨us, []⟩ us vs Q E0 hr e0 b r h) fun r s' hq => ?_)
  cases r with
  | error e => exact False.elim hq
  | ok fl =>
    cases fl with
    | ret u => exact I.after hq
    | next => exact False.elim hq
    | brk => exact False.elim hq
    | cont => exact False.elim hq
def rLenO (C : Addr) (sp : Sp) : List V → Hp → VK → Prop := fun xs H Q => ∃ a dx fs, xs = [V.ref a] ∧ H a = some (.ins C dx fs) ∧ sp [.ref a] H (fun z H' => ∃ n : Int, z = .int n ∧ 0 ≤ n ∧ n < 2 ^ 63 ∧ Q (.int n) H') E0
theorem call_lenO {C : Addr} (F : FnOk X.prog X.w X.K X.mg X.base CX0 k f fd ps sp) (hm : Meth X.K C "__len__" f) (hb : Binds X.K fd ps []) (hr : Room (k + 1) X.A) : CallR X (.builtin "len") (rLenO C sp) := by
  intro pins s σ H xs us Q I r h
  obtain ⟨a, dx, fs, rfl, ha, q⟩ := h
  obtain ⟨u, rfl, ru⟩ := r.one
  cases (show u = Value.ref a from ru)
  obtain ⟨mA, J, _⟩ := ins_get I.hok ha
  obtain ⟨od, J, _⟩ := J.look
  obtain ⟨m, hF⟩ := I.fr
  refine PySem.W.len_K hF I.ok.mod.kin J hm.at_ hm.fn (wpAny_mono (run_fnA (us := [.ref a]) (vs := [.ref a]) F hr.in1 I.env0.in1 hb I (.cons rfl .nil) q) (fun w s' z => ?_) fun _ _ x => x)
  obtain ⟨z', H', I', rz, n, en, h0, h1, qz⟩ := z
  subst en
  obtain ⟨t, e⟩ := (show ∃ t, w = Value.int n t from rz)
  cases e
  exact ⟨⟨h0, h1⟩, .int n, H', I'.tok _, ⟨_, rfl⟩, qz⟩
theorem on_bind (self : Value) : bindSpecial (.builtin "object.__ne__") self = pure (.builtin "object.__ne__", [self]) := PySem.F.cmp_object.ne.bind self
theorem ne_KX {prog : Program} {w : World} {A : Around} {E : Value → Shared → Prop} {s : Shared} {K : PySem.W.Frag} {x C L f : Addr} {h₀ : Heap} {m : Str → Option Value} {ox : Obj} {od : Option Obj} {b tb : Value} {Q : Value → Shared → Prop} (hu : A.units + 1 < cLine) (F : Fr h₀ L s.heap m) (X₀ : K.In h₀) (I : PySem.W.InstAt s.heap x ox C od)
    (hb : PySem.W.Looks (model prog w) s.heap (typeOf b) tb) (hn : PySem.W.notFirst K C tb = true) (hs : PySem.W.findIn K (.ref C) "__eq__" = some (some (.ref f))) (hf : PySem.W.isFn K (.ref f) = true)
    (hne : PySem.W.findIn K (.ref C) "__ne__" = some (some (.builtin "object.__ne__"))) (hob : PySem.W.subIn K (.ref C) (.type "object") = some true)
    (h : wpAny (model prog w) A.in1 (call (.ref f) [.ref x, b]) (fun v s' => ∃ c, v = .bool c ∧ Q (.bool (!c)) s') E s) : wpAny (model prog w) A (richCompare .NotEq (.ref x) b) Q E s := by
  have X := X₀.keeps F.keep
  have ti : PySem.W.Looks (model prog w) s.heap (isInstance (.ref x) (.type "object")) true := I.type.andThen (PySem.W.looks_subIn X hob)
  have ent : wpAny (model prog w) A.in1 (Builtin.«object.__ne__» ⟨[.ref x, b], []⟩) (fun r s' => ∃ c, r = .done (.ret (.bool (!c))) ∧ Q (.bool (!c)) s') E s := by
    unfold Builtin.«object.__ne__»
    repeat (first
      | with_reducible refine wpAny_cRoomFor (show A.in1.units < cLine from hu) ?_
      | (refine wpAny_bind (m := callSpecialIfBound? (.ref x) (Str.ofString "__eq__") [b])
          (PySem.W.ifBound_K X I hs hf (wpAny_mono h (fun r s' hr => by
            obtain ⟨c, rfl, hq⟩ := hr
            repeat (first | exact ⟨c, rfl, hq⟩ | exact wpAny_pure ⟨c, rfl, hq⟩ | exact wpAny_truthy_bool ⟨c, rfl, hq⟩ | (refine wpAny_bind (m := truthy (.bool _)) (wpAny_truthy_bool ?_)) | wp_step)) fun _ _ e => e)))
      | wp_step)
  have one : wpAny (model prog w) A (tryCompare (.ref x) "__ne__" b) (fun r s' => ∃ v, r = some v ∧ Q v s') E s := by
    unfold tryCompare
    refine wpAny_bind ?_
    simp only [callSpecialIfBound?, bindSpecialIfBound?]
    refine wpAny_holding (wpAny_bind (wpAny_bind (wpAny_bind (I.type.here ((PySem.W.looks_findIn X hne).here ?_)))))
    simp only [on_bind]
    refine wpAny_bind (wpAny_askSetting (wpAny_ite ?_))
    have fin : ∀ {R : Option Value → Shared → Prop}, (∀ c s', Q (.bool (!c)) s' → R (some (.bool (!c))) s') → wpAny (model prog w) A (call (.builtin "object.__ne__") ([.ref x] ++ [b]) >>= fun v => pure (some v)) R E s := by
      intro R hR
      refine wpAny_bind (wpAny_call (codeAny_call_builtin PySem.F.cmp_object.ne.plain PySem.F.cmpEntry_ne (PySem.W.check_slot PySem.F.cmpKind_ne PySem.F.cmpSplit_ne ti (PySem.F.cmpArgs_ne _ _) (wpAny_mono ent (fun r s' hr => ?_) fun _ _ e => e))))
      obtain ⟨c, rfl, hq⟩ := hr
      exact wpAny_pure (hR c s' hq)
    split
    · exact wpAny_bind (wpAny_pure (wpAny_pure (fin fun c s' hq => wpAny_pure ⟨_, rfl, hq⟩)))
    · exact wpAny_tryCatch (wpAny_bind (wpAny_pure (wpAny_pure (fin fun c s' hq => wpAny_pure ⟨_, rfl, hq⟩))))
  unfold richCompare
  simp only [oneThing_ref]
  refine wpAny_holding (wpAny_bind (wpAny_cRoomFor (Nat.lt_of_succ_lt hu) ?_))
  rw [cmpInfo_NotEq]
  dsimp only
  refine wpAny_bind (I.type.here (wpAny_bind (hb.here ?_)))
  split
  · rename_i q
    have e : PySem.W.subIn K tb (.ref C) = some false := by
      rcases Bool.or_eq_true_iff.mp hn with e | e
      · rw [beq_iff_eq.mp e] at q; simp at q
      · exact beq_iff_eq.mp e
    refine wpAny_bind ((PySem.W.looks_subIn X e).here ?_)
    simp only [Bool.false_eq_true, if_false]
    refine wpAny_bind (wpAny_mono one (fun r s' z => ?_) fun _ _ e => e)
    obtain ⟨v, rfl, hq⟩ := z
    exact wpAny_pure hq
  · refine wpAny_bind (wpAny_pure ?_)
    simp only [Bool.false_eq_true, if_false]
    refine wpAny_bind (wpAny_mono one (fun r s' z => ?_) fun _ _ e => e)
    obtain ⟨v, rfl, hq⟩ := z
    exact wpAny_pure hq
structure NeOwn (K : PySem.W.Frag) (C : Addr) : Prop where
  ne : PySem.W.findIn K (.ref C) "__ne__" = some (some (.builtin "object.__ne__"))
  ob : PySem.W.subIn K (.ref C) (.type "object") = some true
end
end DL
set_option Elab.async false
set_option linter.all false
set_option maxRecDepth 100000
set_option maxHeartbeats 4000000
namespace DL
open PySem PySem.Spec PyProof.Rows L2
section
variable {X : Cx} {k : Nat} {C : Addr} {t : TF} {a b e : Expr} {pos p p2 : Pos} {ta tb : TD} {u : TDA}
theorem ins_at {K : PySem.W.Frag} {B : Bg K} {H0 G0 H : Hp} {σ : L2.St} {δ : List Sl} {G : Hp} (R : Rel K B H0 G0 H σ δ G) {v : V} {C : Addr} {ns : List Str} {ds : List D} (hd : Dd K G v (.ins C ns ds)) : ∃ a dx fs, v = .ref a ∧ H a = some (.ins C dx fs) := by
  cases hd with
  | ins h0 h1 h2 => exact ⟨_, _, _, rfl, R.sub _ _ h1⟩
theorem sp_of {K : PySem.W.Frag} {B : Bg K} {H0 G0 H : Hp} {σ : L2.St} {δ : List Sl} {G : Hp} (R : Rel K B H0 G0 H σ δ G) {n : Nat} {vs : List V} {rs : List Sl} (oks : ArgsOk K B G vs rs) (mt : MonoF t) (ln : ∀ rs Q, t rs Q → rs.length = n) {Q : VK} {q0 : Sl → Prop} (q : t rs q0)
    (w : ∀ r, q0 r → ∀ v H' G', Rel K B H0 G0 H' σ δ G' → Same G G' → Fra B H H' → ResOk K B H0 H' σ δ G' v r → Q v H') : spD K n t vs H Q E0 := by
  refine ⟨oks.len.trans (ln _ _ q), B, G, rs, R.sub, R.bag, R.sz, oks, mt _ _ _ q fun r q v H' G' kk => ?_⟩
  obtain ⟨R2, ok⟩ := R.call kk
  exact w r q v H' G' R2 kk.gg kk.fra ok
def gLenO (C : Addr) (t : TF) : D → List Sl → QD → Prop := fun d δ Q => match d with
  | .ins C' ns ds => C' = C ∧ t [.dt (.ins C' ns ds)] (fun r => ∃ n : Int, r = .dt (.int n) ∧ 0 ≤ n ∧ n < 2 ^ 63 ∧ Q (.dt (.int n)) δ)
  | _ => False
theorem pd_lenO (M : MthX X.prog X.w X.K X.mg X.base k C "__len__" 1 t) (hr : Room (k + 1) X.A) (hg : Gl X "len") (hm : X.mg "len" = none) (h : PDA X [e] u) (he : starEach [e] X.env = (false, eval e X.env) :: starEach [] X.env := by rfl) (hpl : (backTo pos (starEach [] X.env)).any (·.1) = false := by rfl) :
    PD X (.Call (.Name "len" p) [e] [] pos) (tdCB (f1 (gLenO C t)) u) := by
  obtain ⟨f, fd, ps, F, hc, hmt, hb⟩ := M.ex
  refine pd_callB (call_lenO F hmt hb hr) (mono_f1 fun d δ Q Q' q w => ?_) (callS_1 fun B H0 G0 H σ δ G v d Q R hd q => ?_) hg hm PySem.boot_len h (by decide) (by decide) he hpl
  · cases d <;> first | exact q | skip
    exact ⟨q.1, M.mono _ _ _ q.2 fun r ⟨n, a, b, c, z⟩ => ⟨n, a, b, c, w _ _ z⟩⟩
  · cases d <;> first | exact q.elim | skip
    obtain ⟨rfl, q⟩ := q
    obtain ⟨a, dx, fs, rfl, ha⟩ := ins_at R hd
    refine ⟨a, dx, fs, rfl, ha, sp_of R (vs := [.ref a]) (rs := [.dt _]) ⟨hd, trivial⟩ M.mono M.len q fun r ⟨n, er, h0, h1, z⟩ v H' G' R' s' f' ok => ?_⟩
    subst er
    cases ok.1
    exact ⟨n, rfl, h0, h1, z _ _ _ R' s' f' ok⟩
structure IsC (K : PySem.W.Frag) (C : Addr) : Prop where
  cl : Cls K C
  ha : PySem.W.findIn K (.ref C) "__class__" = some (some (.builtin "object.__class__"))
  hn : PySem.W.specialIn K (.builtin "object.__class__") "__get__" = some (some (.builtin "getset_descriptor.__get__"))
  htk : PySem.W.takesIn K (.builtin "object.__class__") = some true
  hm : PySem.W.mroIn K C (.type "object") = some true
end
end DL
set_option Elab.async false
set_option linter.all false
set_option maxRecDepth 100000
set_option maxHeartbeats 4000000
namespace DL
open PySem PySem.Spec PyProof.Rows L2
theorem Rel.oK {K : PySem.W.Frag} {B : Bg K} {H0 G0 H : Hp} {σ : L2.St} {δ : List Sl} {G : Hp} (R : Rel K B H0 G0 H σ δ G) {i : Nat} {ks : List Key} {ds : List D} (e : δ[i]? = some (.oK ks ds)) : ∃ a xs, σ[i]? = some (some (.ref a)) ∧ Own σ δ i a ∧ ks.length = xs.length ∧ H a = some (.dK (ks.zip xs)) ∧ DdA K G xs ds := by
  rcases R.sl i _ e with z | ⟨v, ev, a, rfl, ga, xs, h0, h1, h2⟩
  · cases z
  · exact ⟨a, xs, ev, ⟨ev, _, e, rfl⟩, h0, h1, h2⟩
theorem DdA.ints {K : PySem.W.Frag} {G : Hp} : ∀ ys : List Int, DdA K G (ys.map V.int) (ys.map D.int)
  | [] => .nil
  | y :: ys => .cons (.int y) (DdA.ints ys)
end DL
set_option Elab.async false
set_option linter.all false
set_option maxRecDepth 100000
set_option maxHeartbeats 4000000
namespace DL
open PySem PySem.Spec PyProof.Rows L2
end DL
set_option Elab.async false
set_option linter.all false
set_option maxRecDepth 100000
set_option maxHeartbeats 4000000
namespace DL
open PySem PySem.Spec PyProof.Rows L2
structure OwnC (K : PySem.W.Frag) (C : Addr) : Prop where
  ne : NeOwn K C
  ha : PySem.W.findIn K (.ref C) "__class__" = some (some (.builtin "object.__class__"))
  hn : PySem.W.specialIn K (.builtin "object.__class__") "__get__" = some (some (.builtin "getset_descriptor.__get__"))
  htk : PySem.W.takesIn K (.builtin "object.__class__") = some true
  hm : PySem.W.mroIn K C (.type "object") = some true
  fi : ∀ f, Meth K C "__getitem__" f → PySem.W.fnIn K f = true
theorem OwnC.ic {K : PySem.W.Frag} {C : Addr} (o : OwnC K C) (c : Cls K C) : IsC K C := ⟨c, o.ha, o.hn, o.htk, o.hm⟩
def ownB (K : PySem.W.Frag) (C : Addr) : Bool :=
  PySem.W.findIn K (.ref C) "__ne__" == some (some (.builtin "object.__ne__")) && (PySem.W.subIn K (.ref C) (.type "object") == some true && (PySem.W.findIn K (.ref C) "__class__" == some (some (.builtin "object.__class__")) &&
  (PySem.W.specialIn K (.builtin "object.__class__") "__get__" == some (some (.builtin "getset_descriptor.__get__")) && (PySem.W.takesIn K (.builtin "object.__class__") == some true && (PySem.W.mroIn K C (.type "object") == some true &&
  (match PySem.W.findIn K (.ref C) "__getitem__" with | some (some (.ref f)) => PySem.W.fnIn K f | _ => true))))))
theorem ownB_ok {K : PySem.W.Frag} {C : Addr} (h : ownB K C = true) : OwnC K C := by
  unfold ownB at h
  simp only [Bool.and_eq_true, beq_iff_eq] at h
  obtain ⟨h1, h2, h3, h4, h5, h6, h7⟩ := h
  refine ⟨⟨h1, h2⟩, h3, h4, h5, h6, fun f m => ?_⟩
  rw [m.at_] at h7
  exact h7
end DL
set_option Elab.async false
set_option linter.all false
set_option maxRecDepth 100000
set_option maxHeartbeats 4000000
namespace DL
open PySem PySem.Spec PyProof.Rows L2
section
variable {K : PySem.W.Frag} {B : Bg K} {H0 G0 H H' G G' : Hp} {σ : L2.St} {δ : List Sl}
theorem Rel.reownO (R : Rel K B H0 G0 H σ δ G) {j : Nat} {a : Addr} {xs : List V} {L : List D} (es : σ[j]? = some (some (.ref a))) (ha : H a = some (.lst xs)) (hA : DdA K G xs L) (ga : G a = none) (h0 : H0 a = none) (nb : NotB B a) (no : ∀ i, ¬ Own σ δ i a) : Rel K B H0 G0 H σ (δ.set j (.ol L)) G := by
  have z := R.assign (v := .ref a) (r := .ol L) ⟨⟨a, rfl, ga, xs, ha, hA⟩, (fun z => nomatch z), fun _ b e => by cases e; exact ⟨h0, nb, no⟩⟩ j
  rw [set_self es] at z
  exact z
theorem Rel.callO (R : Rel K B H0 G0 H σ δ G) {j : Nat} {a : Addr} (o : Own σ δ j a) {v : V} {r : Sl} {L' : List D} (k : RetM K B H G H' G' a v r L') : Rel K B H0 G0 H' σ (δ.set j (.ol L')) G' ∧ ResOk K B H0 H' σ (δ.set j (.ol L')) G' v r := by
  obtain ⟨h0, ga, nb⟩ := R.own j a o
  obtain ⟨R1, no⟩ := R.unslot o
  obtain ⟨R2, ok⟩ := (R1.del h0 ga nb no).call k.rk
  obtain ⟨xs, hx, hA⟩ := k.la
  refine ⟨?_, ok.1, ok.2.1, fun io b e => ?_⟩
  · have z := R2.reownO (j := j) o.1 hx hA k.ga h0 nb no
    rw [List.set_set] at z
    exact z
  · obtain ⟨z1, z2, z3⟩ := ok.2.2 io b e
    refine ⟨z1, z2, fun i ⟨e1, s, e2, io2⟩ => ?_⟩
    rcases getSet e2 with ⟨h1, h2, h3⟩ | ⟨h1, h2⟩ | ⟨_, _, h⟩
    · subst h1
      rw [o.1] at e1
      cases e1
      exact k.va io e
    · exact z3 i ⟨e1, s, by rw [List.getElem?_set_ne h1]; exact h2, io2⟩
    · exact h.elim
end
end DL
set_option Elab.async false
set_option linter.all false
set_option maxRecDepth 100000
set_option maxHeartbeats 4000000
namespace DL
open PySem PySem.Spec PyProof.Rows L2
open PySem.W (EachIs AllAlike Sortable dataLe alike)
section
variable {X : Cx} {pins : List (Addr × Obj)} {σ : L2.St} {H G : Hp} {s : Shared}
structure SrtOk (ds : List D) : Prop where
  plain : plainA ds = true
  al : AllAlike (ds.map py)
  so : Sortable (ds.map py)
  dp : ∀ d ∈ ds, (py d).depth ≤ 60
  len : ds.length ≤ sizeLine
end
end DL
set_option Elab.async false
set_option linter.all false
set_option maxRecDepth 100000
set_option maxHeartbeats 4000000
namespace DL
open PySem PySem.Spec PyProof.Rows L2
open PySem.W (EachIs AllAlike Sortable dataLe alike)
structure Chn {K : PySem.W.Frag} (B : Bg K) (H G H' G' : Hp) : Prop where
  gg : Same G G'
  gh : Same G' H'
  bag : ∀ b c, (b, c) ∈ B → BagOk H' G' b c
  fra : Fra B H H'
  sz : HSz H'
  gn : ∀ a o, G' a = some o → G a = some o ∨ N0 (H a)
theorem BagOk.gnn {H G : Hp} {b : Addr} {c : Cell} (h : BagOk H G b c) : G b = none := h.gn
theorem Chn.step {K : PySem.W.Frag} {B : Bg K} {H G H1 G1 H2 G2 : Hp} {v : V} {r : Sl} (c : Chn B H G H1 G1) (k : RetOk K B H1 G1 H2 G2 v r) : Chn B H G H2 G2 := by
  refine ⟨c.gg.trans k.gg, k.gh, k.bag, c.fra.trans k.fra, k.sz, fun a o e => ?_⟩
  rcases k.gn a o e with z | z
  · exact c.gn a o z
  · have nb : NotB B a := fun d hd => by
      have := (k.bag a d hd).gnn
      rw [e] at this; cases this
    cases q : H a with
    | none => exact .inr trivial
    | some o' => rw [c.fra a o' q nb] at z; exact .inr z
section
variable {X : Cx} {k : Nat} {f : Addr} {fd : FuncData} {ps : List Str} {sp : Sp} {t : TF} {kf : D → D} {pins : List (Addr × Obj)} {σ : L2.St}
structure SrtK (kf : D → D) (t : TF) (ds : List D) : Prop where
  run : ∀ d ∈ ds, t [.dt d] (fun r => r = .dt (kf d))
  ok : SrtOk (ds.map kf)
end
end DL
set_option Elab.async false
set_option linter.all false
set_option maxRecDepth 100000
set_option maxHeartbeats 4000000
namespace DL
open PySem PySem.Spec PyProof.Rows L2
end DL
set_option Elab.async false
set_option linter.all false
set_option maxRecDepth 100000
set_option maxHeartbeats 4000000
namespace DL
open PySem PySem.Spec PyProof.Rows L2
mutual
def nkD : D → Option NestedKey
  | .non => some .none
  | .int i => some (.num i)
  | .bl b => some (.num (if b = true then 1 else 0))
  | .str x => some (.text x)
  | .tup ds => (nkA ds).map .tup
  | _ => none
def nkA : List D → Option (List NestedKey)
  | [] => some []
  | d :: ds => match nkD d, nkA ds with
    | some k, some ks => some (k :: ks)
    | _, _ => none
end
structure DedOk (ds : List D) : Prop where
  key : ∀ d ∈ ds, ∃ es k, d = .tup es ∧ nkD d = some k ∧ k.depth ≤ 8
  len : ds.length ≤ sizeLine
end DL
set_option Elab.async false
set_option linter.all false
set_option maxRecDepth 100000
set_option maxHeartbeats 4000000
namespace DL
open PySem PySem.Spec PyProof.Rows L2
end DL
set_option Elab.async false
set_option linter.all false
set_option maxRecDepth 100000
set_option maxHeartbeats 4000000
namespace DL
open PySem PySem.Spec PyProof.Rows L2
end DL
set_option Elab.async false
set_option linter.all false
set_option maxRecDepth 100000
set_option maxHeartbeats 4000000
namespace DL
open PySem PySem.Spec PyProof.Rows L2
end DL
set_option Elab.async false
set_option linter.all false
set_option maxRecDepth 100000
set_option maxHeartbeats 4000000
namespace DL
open PySem PySem.Spec PyProof.Rows L2
abbrev mzA (h : Heap) (a : Addr) : Heap := h.push { cls := .type "tuple_iterator", data := .fields #[.ref a, .int 0 0] }
abbrev mzB (h : Heap) (a b : Addr) : Heap := (mzA h a).push { cls := .type "list_iterator", data := .fields #[.ref b, .int 0 0] }
abbrev mzC (h : Heap) (a b : Addr) : Heap := (mzB h a b).push { cls := .type "tuple", data := .seq #[.ref h.objs.size, .ref (mzA h a).objs.size] }
abbrev mzD (h : Heap) (a b : Addr) : Heap := (mzC h a b).push { cls := .type "tuple", data := .seq #[.none, .none] }
abbrev mzE (h : Heap) (a b : Addr) : Heap := (mzD h a b).push { cls := .type "zip", data := .fields #[.none, .bool false, .bool false, .ref (mzB h a b).objs.size, .ref (mzC h a b).objs.size] }
theorem meets_zipM (a b : Addr) (xs ys : Array Value) :
    Meets (Builtin.«zip.__new__» ⟨[.type "zip", .ref a, .ref b], []⟩) (fun _ R s => s.heap.IsTuple a xs ∧ s.heap.IsList b ys ∧
      R (.ok (.ret (.ref (mzD s.heap a b).objs.size))) { s with heap := mzE s.heap a b }) :=
  .of_wp fun prog w A R s h => by
    obtain ⟨hp, gs, dr, tk, os⟩ := s; obtain ⟨ha, hb, h⟩ := h
    have sub := sub_zip
    have H1 : Heap.IsTuple (Shared.heap ⟨hp, gs, dr, tk, os⟩) a xs := ha
    have H2 : Heap.IsList (Shared.heap ⟨hp.push { cls := .type "tuple_iterator", data := .fields #[.ref a, .int 0 0] }, gs, dr, tk, os⟩) b ys := Heap.IsList.push hb _
    wp_walk using wpAny_pyIter_tuple H1, wpAny_pyIter_list H2
    exact ⟨_, rfl, h⟩
section
variable {prog : Program} {w : World} {A : Around} {E : Value → Shared → Prop} {s : Shared}
theorem call_zipM {a b : Addr} {xs ys : Array Value} {Q : Value → Shared → Prop} (ha : s.heap.IsTuple a xs) (hb : s.heap.IsList b ys)
    (h : ∀ h', IsZip h' (s.heap.objs.size + 4) (s.heap.objs.size + 2) (s.heap.objs.size + 3) .none → IsTupOf2 h' (s.heap.objs.size + 2) (.ref s.heap.objs.size) (.ref (s.heap.objs.size + 1)) →
      IsTupOf2 h' (s.heap.objs.size + 3) .none .none → h'.IsTupleIter s.heap.objs.size a 0 → h'.IsListIter (s.heap.objs.size + 1) b 0 →
      (∀ c o, s.heap.get? c = some o → h'.get? c = some o) → Q (.ref (s.heap.objs.size + 4)) { s with heap := h' }) :
    wpAny (model prog w) A (call (.type "zip") [.ref a, .ref b]) Q E s := by
  refine callType_new F.called_zip (by decide) (F.typeCall_zip_2 _ _) (F.newCall_zip_2 _ _) (fun o => F.args_object_init_3 o _ _) F.entry_zip_new (meets_zipM a b xs ys) ⟨ha, hb, ?_⟩
  have s1 : (mzA s.heap a).objs.size = s.heap.objs.size + 1 := Heap.size_push ..
  have s2 : (mzB s.heap a b).objs.size = s.heap.objs.size + 2 := by rw [Heap.size_push, s1]
  have s3 : (mzC s.heap a b).objs.size = s.heap.objs.size + 3 := by rw [Heap.size_push, s2]
  have s4 : (mzD s.heap a b).objs.size = s.heap.objs.size + 4 := by rw [Heap.size_push, s3]
  have p1 : ∀ {h : Heap} {c : Addr} {o x : Obj}, h.get? c = some x → (h.push o).get? c = some x := fun e => Heap.get?_push_of_some _ e
  have g5 : (mzE s.heap a b).get? (mzD s.heap a b).objs.size = some _ := Heap.get?_push_size _ rfl
  have g4 : (mzE s.heap a b).get? (mzC s.heap a b).objs.size = some _ := p1 (Heap.get?_push_size _ rfl)
  have g3 : (mzE s.heap a b).get? (mzB s.heap a b).objs.size = some _ := p1 (p1 (Heap.get?_push_size _ rfl))
  have g2 : (mzE s.heap a b).get? (mzA s.heap a).objs.size = some _ := p1 (p1 (p1 (Heap.get?_push_size _ rfl)))
  have g1 : (mzE s.heap a b).get? s.heap.objs.size = some _ := p1 (p1 (p1 (p1 (Heap.get?_push_size _ rfl))))
  show _ ∧ _
  rw [s2, s3, s4] at g5
  rw [s1, s2] at g3
  rw [s3] at g4
  rw [s1] at g2
  rw [s4]
  exact ⟨⟨_, g5, rfl⟩, h _ g5 g3 g4 ⟨_, g1, rfl, rfl⟩ ⟨_, g2, rfl, rfl⟩ fun c o x => p1 (p1 (p1 (p1 (p1 x))))⟩
theorem sep_of {z TI TO i1 i2 a b : Addr} (D : ZipApart z TI TO i1 i2 a b) : ZipSep2 z TI TO i1 i2 [i1, a] [i2, b] where
  TIz := D.TIz
  TOz := D.TOz
  TITO := D.TITO
  TIi1 := D.TIi1
  mem1 := List.mem_cons_self
  zf1 := fun h => by
    simp only [List.mem_cons, List.not_mem_nil, or_false] at h
    rcases h with h | h
    · exact D.i1z h.symm
    · exact D.l1z h.symm
  Tf1 := fun h => by
    simp only [List.mem_cons, List.not_mem_nil, or_false] at h
    rcases h with h | h
    · exact D.TOi1 h
    · exact D.l1TO h.symm
  TIi2 := D.TIi2
  mem2 := List.mem_cons_self
  zf2 := fun h => by
    simp only [List.mem_cons, List.not_mem_nil, or_false] at h
    rcases h with h | h
    · exact D.i2z h.symm
    · exact D.l2z h.symm
  Tf2 := fun h => by
    simp only [List.mem_cons, List.not_mem_nil, or_false] at h
    rcases h with h | h
    · exact D.TOi2 h
    · exact D.l2TO h.symm
  sep1_2 := fun h => by
    simp only [List.mem_cons, List.not_mem_nil, or_false] at h
    rcases h with h | h
    · exact D.i12 h
    · exact D.l2i1 h.symm
  sep2_1 := fun h => by
    simp only [List.mem_cons, List.not_mem_nil, or_false] at h
    rcases h with h | h
    · exact D.i12 h.symm
    · exact D.l1i2 h.symm
end
def ItzM (K : PySem.W.Frag) (a b : Addr) : It :=
  ⟨fun i H => ∃ (xs ys : List V) (x y : V), SqT K H a xs ∧ SqL K H b ys ∧ xs[i]? = some x ∧ ys[i]? = some y,
    fun i H v H' => ∃ T x y, v = .ref T ∧ H T = none ∧ H' = upd H T (.tup [x, y]) ∧ (∀ xs, SqT K H a xs → xs[i]? = some x) ∧ ∀ ys, SqL K H b ys → ys[i]? = some y,
    fun i H => ∃ xs ys : List V, SqT K H a xs ∧ SqL K H b ys ∧ i = min xs.length ys.length⟩
theorem five {z TI TO i1 i2 c : Addr} (h : c ∈ [z, TI, TO, i1, i2]) : c = z ∨ c = TI ∨ c = TO ∨ c = i1 ∨ c = i2 := by simpa using h
theorem turn_zipM {P : Program} {w : World} {K : PySem.W.Frag} {elts : List Expr} {kk : Nat} {tpos : Pos} {a b z TI TO i1 i2 : Addr} (D : ZipApart z TI TO i1 i2 a b) :
    Turn P w K (.Tuple elts kk tpos) (ItzM K a b) [z, TI, TO, i1, i2] z (fun i h => IsZip h z TI TO .none ∧ IsTupOf2 h TI (.ref i1) (.ref i2) ∧ (∃ x y, IsTupOf2 h TO x y) ∧ h.IsTupleIter i1 a i ∧ h.IsListIter i2 b i) where
  mem := by simp
  obj := fun i h st c hc => by
    obtain ⟨hz, hI, ⟨x, y, hO⟩, ⟨o1, e1, _, d1⟩, ⟨o2, e2, _, d2⟩⟩ := st
    rcases five hc with rfl | rfl | rfl | rfl | rfl
    · exact ⟨_, hz, fun v q => nomatch q⟩
    · exact ⟨_, hI, fun v q => nomatch q⟩
    · exact ⟨_, hO, fun v q => nomatch q⟩
    · exact ⟨o1, e1, fun v q => by rw [d1] at q; cases q⟩
    · exact ⟨o2, e2, fun v q => by rw [d2] at q; cases q⟩
  keep := fun i h h' st k => by
    obtain ⟨hz, hI, ⟨x, y, hO⟩, h1, h2⟩ := st
    exact ⟨k z (by simp) _ hz, k TI (by simp) _ hI, ⟨x, y, k TO (by simp) _ hO⟩, h1.at fun o q => k i1 (by simp) o q, h2.at fun o q => k i2 (by simp) o q⟩
  item := by
    intro X hP hw hK hc i pins s σ H E I hf st hg
    subst hP hw hK
    obtain ⟨hz, hI, ⟨x0, y0, hO⟩, h1, h2⟩ := st
    obtain ⟨xs, ys, x, y, qx, qy, ex, ey⟩ := hg
    obtain ⟨is1, r1, p1, _⟩ := I.tuple qx
    obtain ⟨is2, r2, p2, _⟩ := I.list qy
    obtain ⟨u, hu, ru⟩ := r1.get ex
    obtain ⟨v, hv, rv⟩ := r2.get ey
    have hh : X.A.in1.handled = none := I.ok.hd hc
    have n1 : i < is1.toArray.size := by
      have := (List.getElem?_eq_some_iff.mp hu).1
      simpa using this
    have n2 : i < is2.toArray.size := by
      have := (List.getElem?_eq_some_iff.mp hv).1
      simpa using this
    have zl : z < s.heap.objs.size := Heap.lt_size hz
    refine wpAny_pyNext_zipD2_item (sep_of D) (Draws.tuple hh i1 a D.l1i1 is1.toArray) (Draws.list hh i2 b D.l2i2 is2.toArray) hz hI hO ⟨h1, show s.heap.IsTuple a is1.toArray from p1⟩ ⟨h2, p2.isList⟩ n1 n2 fun y1 y2 h' tk e1 e2 hz' hO' st1 st2 hT hsz hk => ?_
    have e1 : y1 = u := by
      have z := hu.symm.trans (by simpa using e1)
      exact (Option.some.inj z).symm
    have e2 : y2 = v := by
      have z := hv.symm.trans (by simpa using e2)
      exact (Option.some.inj z).symm
    subst e1; subst e2
    refine ⟨_, rfl, wpAny_letOwnedTupleGo_zip (s := { s with heap := h', toks := tk }) hz' fun h2' hz2 sb => ?_⟩
    have hT2 : h2'.get? s.heap.objs.size = some { cls := .type "tuple", data := .seq #[y1, y2] } := (sb.2 _ (Nat.ne_of_gt zl)).trans hT
    have new : ObjOk X.prog X.w (upd H s.heap.objs.size (.tup [x, y])) h2' s.heap.objs.size (.tup [x, y]) :=
      ⟨by show 2 ≤ sizeLine; decide, [y1, y2], .cons ru (.cons rv .nil), ⟨_, hT2, rfl, _, rfl⟩⟩
    have I1 : Inv X pins σ (upd H s.heap.objs.size (.tup [x, y])) { s with heap := h2', toks := tk } :=
      I.turnedNew (t' := tk) (ch := [z, TI, TO, i1, i2]) (fun c o hb q => (sb.2 c (fun q' => hb (by simp [q']))).trans (hk c o (fun q' => hb (by simp [q'])) (fun q' => hb (by simp [q'])) (fun q' => hb (by simp [q'])) (fun q' => hb (by simp [q'])) q)) hf (Nat.le_refl _) new
    refine ⟨.ref s.heap.objs.size, _, I1, rfl, ⟨_, x, y, rfl, I.hok.fresh (Nat.le_refl _), rfl, fun l hl => by rw [I.tuple_inj hl qx]; exact ex, fun l hl => by rw [I.list_inj hl qy]; exact ey⟩, ⟨hz2, ?_, ⟨y1, y2, ?_⟩, ?_, ?_⟩, fun c hcm => ?_⟩
    · exact (sb.2 _ D.TIz).trans (hk _ _ D.TIz D.TITO D.TIi1 D.TIi2 hI)
    · exact (sb.2 _ D.TOz).trans hO'
    · exact st1.1.at fun o q => (sb.2 _ D.i1z).trans q
    · exact st2.1.at fun o q => (sb.2 _ D.i2z).trans q
    · have hlt : c < s.heap.objs.size := by
        rcases five hcm with rfl | rfl | rfl | rfl | rfl
        · exact zl
        · exact Heap.lt_size hI
        · exact Heap.lt_size hO
        · obtain ⟨_, e1, _⟩ := h1; exact Heap.lt_size e1
        · obtain ⟨_, e2, _⟩ := h2; exact Heap.lt_size e2
      rw [upd_ne (Nat.ne_of_lt hlt)]
      exact (hf c hcm).1
  done := by
    intro X hP hw hK hc i pins s σ H E I hf st hg
    subst hP hw hK
    obtain ⟨hz, hI, ⟨x0, y0, hO⟩, h1, h2⟩ := st
    obtain ⟨xs, ys, qx, qy, hend⟩ := hg
    obtain ⟨is1, r1, p1, _⟩ := I.tuple qx
    obtain ⟨is2, r2, p2, _⟩ := I.list qy
    have l1 := r1.length
    have l2 := r2.length
    have s1 : is1.toArray.size = xs.length := by simp only [List.size_toArray]; omega
    have s2 : is2.toArray.size = ys.length := by simp only [List.size_toArray]; omega
    have hh : X.A.in1.handled = none := I.ok.hd hc
    exact wpAny_pyNext_zipD2_end (sep_of D) (Draws.tuple hh i1 a D.l1i1 is1.toArray) (Draws.list hh i2 b D.l2i2 is2.toArray) hz hI hO ⟨h1, show s.heap.IsTuple a is1.toArray from p1⟩ ⟨h2, p2.isList⟩ (by omega) (by omega) (by omega) fun h' tk hk => ⟨rfl, I.turnedL (t' := tk) (ch := [z, TI, TO, i1, i2]) (fun c o hb q =>
      hk c o (fun q' => hb (by simp [q'])) (fun q' => hb (by simp [q'])) (fun q' => hb (by simp [q'])) (fun q' => hb (by simp [q'])) q) hf⟩
  self := fun A i s Q E st h => wpAny_pyIter_zip st.1 h
def iZipX (K : PySem.W.Frag) (ta : TA) : TI := fun σ H R => ta σ H fun vs H1 => ∃ a b xs ys, vs = [.ref a, .ref b] ∧ SqT K H1 a xs ∧ (SqL K H1 b ys ∧ R (ItzM K a b) H1 ∨ SqT K H1 b ys ∧ R (RZ.ItzT K a b) H1)
theorem pi_zipX {X : Cx} {e e2 : Expr} {ta : TA} {p pos tpos : Pos} {elts : List Expr} {kk : Nat} (hg : Gl X "zip") (hm : X.mg "zip" = none) (ha : PA X [e, e2] ta)
    (hs : starEach [e, e2] X.env = (false, eval e X.env) :: starEach [e2] X.env := by rfl) (hpl : (backTo pos (starEach [e2] X.env)).any (·.1) = false := by rfl) :
    PI X (.Tuple elts kk tpos) (.Call (.Name "zip" p) [e, e2] [] pos) (iZipX X.K ta) := by
  refine ⟨fun pins s σ H R I h => Call_ (ld_blt I hg hm PyProof.Rows.boot_zip (PyProof.Rows.callWith_type1 (thn (ha.run pos pins s σ H _ I h) fun us s1 ⟨vs, H1, I1, r1, q1⟩ => ?_) hs hpl))⟩
  obtain ⟨a, b, xs, ys, rfl, qx, q⟩ := q1
  cases r1 with
  | cons r rr =>
    cases rr with
    | cons r' rr =>
      cases rr; cases r; cases r'
      obtain ⟨is1, v1, p1, _⟩ := I1.tuple qx
      have la : a < s1.heap.objs.size := by obtain ⟨o, e, _⟩ := id p1; exact Heap.lt_size e
      have fp : ∀ c, c ∈ [s1.heap.objs.size + 4, s1.heap.objs.size + 2, s1.heap.objs.size + 3, s1.heap.objs.size, s1.heap.objs.size + 1] → FpOk X pins H1 c := fun c hc => by
        have le : s1.heap.objs.size ≤ c := by
          rcases five hc with e | e | e | e | e <;> rw [e] <;> first | exact Nat.le_add_right _ _ | exact Nat.le_refl _
        exact I1.fpOk le (I1.hok.fresh le)
      rcases q with ⟨qy, q⟩ | ⟨qy, q⟩
      · obtain ⟨is2, v2, p2, _⟩ := I1.list qy
        refine call_zipM (show s1.heap.IsTuple a is1.toArray from p1) p2.isList fun h' hz hI hO h1 h2 hk => wpAny_pyIter_zip hz ?_
        have I2 : Inv X pins σ H1 { s1 with heap := h' } := I1.kept (t' := s1.toks) hk
        exact ⟨s1.heap.objs.size + 4, _, _, _, H1, rfl, I2, turn_zipM (PySem.W.ktu_apart s1.heap.objs.size a b la p2.lt), ⟨hz, hI, ⟨_, _, hO⟩, h1, h2⟩, fp, q⟩
      · obtain ⟨is2, v2, p2, _⟩ := I1.tuple qy
        have lb : b < s1.heap.objs.size := by obtain ⟨o, e, _⟩ := id p2; exact Heap.lt_size e
        refine RZ.call_zipT (show s1.heap.IsTuple a is1.toArray from p1) (show s1.heap.IsTuple b is2.toArray from p2) fun h' hz hI hO h1 h2 _ hk => wpAny_pyIter_zip hz ?_
        have I2 : Inv X pins σ H1 { s1 with heap := h' } := I1.kept (t' := s1.toks) hk
        exact ⟨s1.heap.objs.size + 4, _, _, _, H1, rfl, I2, RZ.turn_zipT (PySem.W.ktu_apart s1.heap.objs.size a b la lb), ⟨hz, hI, ⟨_, _, hO⟩, h1, h2⟩, fp, q⟩
theorem itOk_zipM {K : PySem.W.Frag} {G : Hp} {a b : Addr} {vs ws : List V} {xs ys : List D} (h1 : SqD K G a vs) (h2 : DdA K G vs xs) (h3 : G b = some (.lst ws)) (h4 : DdA K G ws ys) : ItOk K G (ItzM K a b) (zipD xs ys) := by
  intro B H0 G0 H σ δ G2 R sG
  have hq1 : SqT K H a vs := sameT R.sub (sameD sG h1)
  have hq2 : SqL K H b ws := SqL.of (R.sub _ _ (sG _ _ h3))
  refine ⟨fun i d e => ?_, ⟨vs, ws, hq1, hq2, ?_⟩⟩
  · obtain ⟨x0, y0, e1, e2, rfl⟩ := zipD_get xs ys i d e
    obtain ⟨v, ev, hv⟩ := h2.get e1
    obtain ⟨w, ew, hw⟩ := h4.get e2
    refine ⟨⟨vs, ws, v, w, hq1, hq2, ev, ew⟩, fun x H3 y => ?_⟩
    obtain ⟨T, x1, y1, rfl, nT, rfl, z1, z2⟩ := y
    have e3 := z1 vs hq1
    have e4 := z2 ws hq2
    rw [ev] at e3; cases e3
    rw [ew] at e4; cases e4
    obtain ⟨R3, s3⟩ := R.laidG (o := .tup [v, w]) nT (by show (2 : Nat) ≤ sizeLine; decide)
    exact ⟨_, R3, s3, Fra.upd nT, .tup (.inl upd_same) (.cons (Dd.mono (sG.trans s3) _ _ hv) (.cons (Dd.mono (sG.trans s3) _ _ hw) .nil))⟩
  · rw [zipD_len, h2.len, h4.len]
def tdZipX (t : TDA) : TDI := fun δ Q => t δ fun rs δ' => match rs with
  | [.dt (.tup xs), .dt (.lst ys)] => Q (zipD xs ys) δ'
  | [.dt (.tup xs), .dt (.tup ys)] => Q (zipD xs ys) δ'
  | _ => False
section
variable {X : Cx} {e e2 : Expr} {u : TDA} {p pos tpos : Pos}
theorem pdi_zipX {elts : List Expr} {kk : Nat} (hg : Gl X "zip") (hm : X.mg "zip" = none) (h : PDA X [e, e2] u) (hs : starEach [e, e2] X.env = (false, eval e X.env) :: starEach [e2] X.env := by rfl) (hpl : (backTo pos (starEach [e2] X.env)).any (·.1) = false := by rfl) :
    PDI X (.Tuple elts kk tpos) (.Call (.Name "zip" p) [e, e2] [] pos) (tdZipX u) := by
  refine ⟨PI.weak (pi_zipX hg hm h.pa hs hpl) fun σ H Rr ⟨B, H0, G0, δ, G, R, q⟩ => ⟨B, H0, G0, δ, G, R, h.mono _ _ _ q fun rs δ1 q vs H1 G1 R1 s1 f1 oks => ?_⟩, fun δ Q Q' q w => h.mono _ _ _ q fun r δ' q => ?_⟩
  · split at q
    · obtain ⟨v, w, rfl, hd, hd2⟩ := arg2 oks
      cases hd with
      | tup g1 g2 =>
        cases hd2 with
        | lst g3 g4 => exact ⟨_, _, _, _, rfl, sameT R1.sub g1, .inl ⟨SqL.of (R1.sub _ _ g3), q _ _ _ R1 s1 f1 (itOk_zipM g1 g2 g3 g4)⟩⟩
    · obtain ⟨v, w, rfl, hd, hd2⟩ := arg2 oks
      cases hd with
      | tup g1 g2 =>
        cases hd2 with
        | tup g3 g4 => exact ⟨_, _, _, _, rfl, sameT R1.sub g1, .inr ⟨sameT R1.sub g3, q _ _ _ R1 s1 f1 (itOk_zipT g1 g2 g3 g4)⟩⟩
    · exact q.elim
  · split at q
    · exact w _ _ q
    · exact w _ _ q
    · exact q
end
theorem InitX.imp {P : Program} {w : World} {K : PySem.W.Frag} {mg : Str → Option Value} {base : Heap} {k n : Nat} {C : Addr} {x : Str} {t t' : TFI} (M : InitX P w K mg base k C x n t)
    (mt : ∀ rs (Q Q' : List Str → List D → Prop), t' rs Q → (∀ ns ds, Q ns ds → Q' ns ds) → t' rs Q') (ln : ∀ rs Q, t' rs Q → rs.length = n) (h : ∀ rs Q, t' rs Q → t rs Q) : InitX P w K mg base k C x n t' := by
  obtain ⟨f, fd, ps, F, m, e, b⟩ := M.ex
  refine ⟨⟨f, fd, ps, F.imp fun vs H Q E z => ?_, m, e, b⟩, mt, ln⟩
  obtain ⟨x, vs', B, G, dx, rs, a1, a2, a3, a4, a5, a6, a7, a8, a9, z⟩ := z
  exact ⟨x, vs', B, G, dx, rs, a1, a2, a3, a4, a5, a6, a7, a8, a9, h _ _ z⟩
end DL
set_option Elab.async false
set_option linter.all false
set_option maxRecDepth 100000
set_option maxHeartbeats 4000000
namespace DL
open PySem PySem.Spec PyProof.Rows L2
section
variable {X : Cx} {a : Expr} {pos lp : Pos} {ta : TD}
theorem ValOk.up {K : PySem.W.Frag} {B : Bg K} {H H' G : Hp} {v : V} {s : Sl} (h : ValOk K B H G v s) (e : ∀ b o, H b = some o → H' b = some o) : ValOk K B H' G v s := by
  cases s <;> first | exact h | (obtain ⟨b, e1, g, z⟩ := h; exact ⟨b, e1, g, z.up (fun o q => e b o q) (Same.refl _)⟩)
end
end DL
set_option Elab.async false
set_option linter.all false
set_option maxRecDepth 100000
set_option maxHeartbeats 4000000
namespace DL
open PySem PySem.Spec PyProof.Rows L2
abbrev TFJ := List Sl → (List Str → List D → Prop) → (Addr → List Str → List D → Prop) → Prop
def MonoJ (t : TFJ) : Prop := ∀ rs (Q Q' : List Str → List D → Prop) (W W' : Addr → List Str → List D → Prop), t rs Q W → (∀ ns ds, Q ns ds → Q' ns ds) → (∀ C ns ds, W C ns ds → W' C ns ds) → t rs Q' W'
structure RetXI (K : PySem.W.Frag) (B : Bg K) (H G H' G' : Hp) (dd x : Addr) : Prop where
  gg : Same G G'
  gh : Same G' H'
  bag : ∀ b c, (b, c) ∈ B → BagOk H' G' b c
  fra : ∀ a o, a ≠ x → H a = some o → NotB B a → H' a = some o
  sz : HSz H'
  gn : ∀ a o, G' a = some o → G a = some o ∨ N0 (H a) ∨ a = x
  dn : H dd = none ∨ dd = x
  gd : G' dd = none
def spJ (K : PySem.W.Frag) (C : Addr) (n : Nat) (t : TFJ) : Sp := fun vs H Q E => ∃ x vs' B G dx rs, vs = .ref x :: vs' ∧ vs'.length = n ∧ H x = some (.ins C dx []) ∧ G x = none ∧ NotB B x ∧ Same G H ∧ (∀ b c, (b, c) ∈ B → BagOk H G b c) ∧ HSz H ∧ ArgsOk K B G vs' rs ∧
  t rs (fun ns ds => ∀ H' G', RetI K B C H G H' G' x ns ds → Q .non H') (fun C' ns ds => ∀ H' G' dd xs, RetXI K B H G H' G' dd x → ns.length = xs.length → H' dd = some (.xd (ns.zip xs)) → DdA K G' xs ds → E (.ref C') (some dd) H')
structure InitJ (P : Program) (w : World) (K : PySem.W.Frag) (mg : Str → Option Value) (base : Heap) (k : Nat) (C : Addr) (x : Str) (n : Nat) (t : TFJ) : Prop where
  ex : ∃ f fd ps, FnOk P w K mg base (L2.CX P w) k f fd ps (spJ K C n t) ∧ Mk K C f ∧ mg x = some (.ref C) ∧ Binds K fd ps []
  mono : MonoJ t
  len : ∀ rs Q W, t rs Q W → rs.length = n
section
variable {P : Program} {w : World} {K : PySem.W.Frag} {mg : Str → Option Value} {base : Heap} {m qual : Str} {st : Stmt} {f : Addr} {fd : FuncData} {N ps : List Str} {k n : Nat} {t : TFJ} {C : Addr}
theorem fnJ (F : Fun K m qual st f fd) (S : FnScope N ps (defScope st)) (hn : ps.length = n + 1)
    (hb : ∀ (cdv : Value) (A : Around) (outer : List Env) (s : Shared) (H : Hp) (E : XK), Room k (A.deeper (envOfC qual (defScope st) s.heap.objs.size f cdv)) →
      ∃ tS, PDSs (cxOf (L2.CX P w) P w K mg base N qual (defScope st) f cdv A outer s H E) (defBody st) tS ∧ ∀ x rs (Q : List Str → List D → Prop) (W : Addr → List Str → List D → Prop), t rs Q W → tS { nx := endI Q x C, rt := fun r δ => r = .dt .non ∧ endI Q x C δ, ex := fun C ns ds _ => W C ns ds } (startD N (.oI x C [] [] :: rs))) :
    FnOk P w K mg base (L2.CX P w) (k + 1) f fd ps (spJ K C n t) :=
  F.okX S (fun vs H Q E h => by obtain ⟨x, vs', B, G, dx, rs, rfl, hl, _⟩ := h; rw [List.length_cons, hl]; exact hn.symm) fun cdv A outer s H vs Q E hr want => by
    obtain ⟨tS, h, le⟩ := hb cdv A outer s H E hr
    refine ⟨_, h.ps, ?_⟩
    obtain ⟨x, vs', B, G, dx, rs, rfl, hl, hx, gx, nx, sub, bag, sz, oks, q⟩ := want
    refine ⟨B, _, G, _, G, rel_startI hx gx nx sub bag sz oks, h.mono _ _ _ ?_ (le x rs _ _ q)⟩
    have fin : ∀ {δ' : List Sl} {σ' : L2.St} {H' G' : Hp}, Rel K B (fun a => if a = x then none else H a) G H' σ' δ' G' → endI (fun ns ds => ∀ H' G', RetI K B C H G H' G' x ns ds → Q .non H') x C δ' → Q .non H' := fun {δ' σ' H' G'} R' ⟨ns, ds, e, q⟩ => by
      rcases R'.sl 0 _ e with z | ⟨v, ev, a, rfl, ga, rfl, dx', xs, h0, h1, h2⟩
      · cases z
      · refine q H' G' ⟨R'.g0, R'.sub, R'.bag, fun b o nb e2 n => R'.ent b o (by rw [if_neg nb]; exact e2) n, R'.sz, fun b o e2 => ?_, ga, dx', xs, h0, h1, h2⟩
        rcases R'.gn b o e2 with z | z
        · exact .inl z
        · by_cases hb : b = a
          · rw [hb, ga] at e2; cases e2
          · rw [if_neg hb] at z; exact .inr z
    exact ⟨fun δ q σ' H' G' R' => fin R' q, fun r δ q v σ' H' G' R' ok => by
      obtain ⟨rfl, q⟩ := q
      cases ok.1
      exact fin R' q, fun _ q => q.elim, fun _ q => q.elim,
      fun C' ns ds δ q σ' H' G' dd xs R' hl hd h0 gd nb no hA => WM.of (takes_of rfl rfl rfl rfl) (q H' G' dd xs ⟨R'.g0, R'.sub, R'.bag, fun b o nb e2 n => R'.ent b o (by rw [if_neg nb]; exact e2) n, R'.sz, fun b o e2 => by
        rcases R'.gn b o e2 with z | z
        · exact .inl z
        · by_cases hb : b = x
          · exact .inr (.inr hb)
          · rw [if_neg hb] at z; exact .inr (.inl z), by
        by_cases hb : dd = x
        · exact .inr hb
        · have h0 : (if dd = x then none else H dd) = none := h0
          rw [if_neg hb] at h0; exact .inl h0, gd⟩ hl hd hA)⟩
theorem InitJ.of {x : Str} (D : Dfi K mg C x qual st ps) (S : FnScope N ps (defScope st)) (hn : ps.length = n + 1) (mt : MonoJ t) (ln : ∀ rs Q W, t rs Q W → rs.length = n)
    (hb : ∀ (f : Addr) (cdv : Value) (A : Around) (outer : List Env) (s : Shared) (H : Hp) (E : XK), Room k (A.deeper (envOfC qual (defScope st) s.heap.objs.size f cdv)) →
      ∃ tS, PDSs (cxOf (L2.CX P w) P w K mg base N qual (defScope st) f cdv A outer s H E) (defBody st) tS ∧ ∀ xa rs (Q : List Str → List DL.D → Prop) (W : Addr → List Str → List DL.D → Prop), t rs Q W → tS { nx := endI Q xa C, rt := fun r δ => r = .dt .non ∧ endI Q xa C δ, ex := fun C ns ds _ => W C ns ds } (startD N (.oI xa C [] [] :: rs))) :
    InitJ P w K mg base (k + 1) C x n t := by
  obtain ⟨f, fd, F, hm, hx, hbd⟩ := D.ex
  exact ⟨⟨f, fd, ps, fnJ F S hn (fun cdv A outer s H E hr => hb f cdv A outer s H E hr), hm, hx, hbd⟩, mt, ln⟩
end
end DL
set_option Elab.async false
set_option linter.all false
set_option maxRecDepth 100000
set_option maxHeartbeats 4000000
namespace DL
open PySem PySem.Spec PyProof.Rows L2
structure Up {K : PySem.W.Frag} (B : Bg K) (H0 G0 H1 G1 : Hp) : Prop where
  hh : ∀ a o, H0 a = some o → NotB B a → H1 a = some o
  gg : Same G0 G1
  gn : ∀ a o, G1 a = some o → G0 a = some o ∨ N0 (H0 a)
theorem Up.refl {K : PySem.W.Frag} {B : Bg K} {H0 G0 : Hp} : Up B H0 G0 H0 G0 := ⟨fun _ _ e _ => e, Same.refl _, fun _ _ e => .inl e⟩
def hdsOf : List Sl → List (Addr × List Addr)
  | [] => []
  | .hd x _ bs _ :: δ => (x, bs) :: hdsOf δ
  | _ :: δ => hdsOf δ
theorem hds_mem {x : Addr} {sh : NSh} {bs : List Addr} {dss : List (List D)} : ∀ {δ : List Sl} {i : Nat}, δ[i]? = some (.hd x sh bs dss) → (x, bs) ∈ hdsOf δ
  | s :: δ, 0, e => by
    cases e
    exact List.mem_cons_self
  | s :: δ, i + 1, e => by
    have z := hds_mem (δ := δ) (i := i) (by simpa using e)
    cases s <;> first | exact z | exact List.mem_cons_of_mem _ z
  | [], _, e => by simp at e
theorem hds_nil {δ : List Sl} (h : hdsOf δ = []) {i : Nat} {s : Sl} (e : δ[i]? = some s) : s.isHd = false := by
  cases s <;> first | rfl | (have z := hds_mem e; rw [h] at z; cases z)
def HdFree (H0 : Hp) (l : List (Addr × List Addr)) : Prop := ∀ p ∈ l, H0 p.1 = none ∧ ∀ b ∈ p.2, H0 b = none
section
variable {K : PySem.W.Frag} {B : Bg K} {H0 G0 H1 G1 H G : Hp} {σ : L2.St} {δ : List Sl}
theorem Rel.nob (R : Rel K B H0 G0 H σ δ G) {a : Addr} {o : HO} (e : G a = some o) : NotB B a := fun c z => by
  rw [(R.bag a c z).gn] at e; cases e
theorem Up.no (u : Up B H0 G0 H1 G1) {a : Addr} (h : H1 a = none) (nb : NotB B a) : H0 a = none := none_of fun o e => by
  rw [u.hh a o e nb] at h; cases h
theorem Up.no1 (u : Up B H0 G0 H1 G1) {a : Addr} (h : N0 (H1 a)) (nb : NotB B a) : N0 (H0 a) := by
  cases e : H0 a with
  | none => trivial
  | some o => rw [u.hh a o e nb] at h; exact h
theorem Rel.weak (u : Up B H0 G0 H1 G1) (R : Rel K B H1 G1 H σ δ G) (nh : hdsOf δ = []) : Rel K B H0 G0 H σ δ G :=
  ⟨R.sub, u.gg.trans R.g0, fun a o e nb => R.ent a o (u.hh a o e nb) nb, R.len, R.sl, R.sep, fun i a oa => ⟨u.no (R.own i a oa).1 (R.own i a oa).2.2, (R.own i a oa).2⟩, R.bag, fun a o e => by
    rcases R.gn a o e with z | z
    · exact u.gn a o z
    · exact .inr (u.no1 z (R.nob e)), R.sz, HdSl.none fun i s e => hds_nil nh e⟩
theorem ResOk.weak {v : V} {r : Sl} (u : Up B H0 G0 H1 G1) (ok : ResOk K B H1 H σ δ G v r) : ResOk K B H0 H σ δ G v r :=
  ⟨ok.1, ok.2.1, fun io a e => ⟨u.no (ok.2.2 io a e).1 (ok.2.2 io a e).2.1, (ok.2.2 io a e).2⟩⟩
end
def endsHd (X : Cx) (B : Bg X.K) (H0 G0 : Hp) (D : Ends) : EndsD where
  nx := fun δ' => ∀ σ' H' H1 G1 G', Up B H0 G0 H1 G1 → HdFree H0 (hdsOf δ') → Rel X.K B H1 G1 H' σ' δ' G' → D.nx σ' H'
  rt := fun r δ' => ∀ v σ' H' H1 G1 G', Up B H0 G0 H1 G1 → Rel X.K B H1 G1 H' σ' δ' G' → ResOk X.K B H1 H' σ' δ' G' v r → D.rt v H'
  bk := fun δ' => ∀ σ' H' H1 G1 G', Up B H0 G0 H1 G1 → HdFree H0 (hdsOf δ') → Rel X.K B H1 G1 H' σ' δ' G' → D.bk σ' H'
  ct := fun δ' => ∀ σ' H' H1 G1 G', Up B H0 G0 H1 G1 → HdFree H0 (hdsOf δ') → Rel X.K B H1 G1 H' σ' δ' G' → D.ct σ' H'
  ex := fun C ns ds δ' => ∀ H1 G1, Up B H0 G0 H1 G1 → exW X B H1 G1 C ns ds δ'
def tyHd (X : Cx) (t : TDS) : TS := fun D σ H => ∃ B H0 G0 H1 G1 δ G, Up B H0 G0 H1 G1 ∧ HdFree H0 (hdsOf δ) ∧ Rel X.K B H1 G1 H σ δ G ∧ t (endsHd X B H0 G0 D) δ
structure PDN (X : Cx) (st : Stmt) (t : TDS) : Prop where
  ps : PS X st (tyHd X t)
  mono : MonoS t
structure PDNs (X : Cx) (sts : List Stmt) (t : TDS) : Prop where
  ps : PSs X sts (tyHd X t)
  mono : MonoS t
end DL
set_option Elab.async false
set_option linter.all false
set_option maxRecDepth 100000
set_option maxHeartbeats 4000000
namespace DL
open PySem PySem.Spec PyProof.Rows L2
section
variable {K : PySem.W.Frag} {B : Bg K} {H0 G0 H1 G1 H G : Hp} {σ : L2.St} {δ : List Sl}
theorem Up.write (u : Up B H0 G0 H1 G1) {b : Addr} {o : HO} (f : H0 b = none) : Up B H0 G0 (upd H1 b o) G1 :=
  ⟨fun a q e nb => by rw [upd_ne fun z => by rw [z, f] at e; cases e]; exact u.hh a q e nb, u.gg, u.gn⟩
end
end DL
set_option Elab.async false
set_option linter.all false
set_option maxRecDepth 100000
set_option maxHeartbeats 4000000
namespace DL
open PySem PySem.Spec PyProof.Rows L2
end DL
set_option Elab.async false
set_option linter.all false
set_option maxRecDepth 100000
set_option maxHeartbeats 4000000
namespace DL
open PySem PySem.Spec PyProof.Rows L2
structure HidNew (K : PySem.W.Frag) (B : Bg K) (H0 : Hp) (σ : L2.St) (δ : List Sl) (H' G' : Hp) (x : Addr) (bs : List Addr) (dss : List (List D)) : Prop where
  nd : bs.Nodup
  nx : x ∉ bs
  len : bs.length = dss.length
  out : H' x = some (.lst (bs.map V.ref)) ∧ NotB B x ∧ G' x = none
  inn : ∀ (k : Nat) (b : Addr), bs[k]? = some b → NotB B b ∧ G' b = none ∧ ∃ vs ds, dss[k]? = some ds ∧ H' b = some (.lst vs) ∧ DdA K G' vs ds
  new : ∀ a ∈ x :: bs, H0 a = none ∧ ∀ i, ¬ Own σ δ i a
def hideH (L : List Addr) (H H0 : Hp) : Hp := fun a => if a ∈ L then H a else H0 a
section
variable {K : PySem.W.Frag} {B : Bg K} {H0 G0 H1 G1 H G : Hp} {σ : L2.St} {δ : List Sl}
theorem hideH_in {L : List Addr} {a : Addr} (h : a ∈ L) : hideH L H H0 a = H a := if_pos h
theorem hideH_out {L : List Addr} {a : Addr} (h : a ∉ L) : hideH L H H0 a = H0 a := if_neg h
theorem Rel.hide (R : Rel K B H1 G1 H σ δ G) {x : Addr} {bs : List Addr} {dss : List (List D)} (n : HidNew K B H1 σ δ H G x bs dss) : Rel K B (hideH (x :: bs) H H1) G1 H σ δ G ∧ HdIn K B (hideH (x :: bs) H H1) G x .l bs dss := by
  have low : ∀ a o, H1 a = some o → hideH (x :: bs) H H1 a = some o := fun a o e => by
    rw [hideH_out fun z => by rw [(n.new a z).1] at e; cases e]; exact e
  have gN : ∀ a ∈ x :: bs, G a = none := fun a ha => by
    rcases List.mem_cons.mp ha with rfl | ha
    · exact n.out.2.2
    · obtain ⟨k, hk⟩ := List.getElem?_of_mem ha
      exact (n.inn k a hk).2.1
  refine ⟨⟨R.sub, R.g0, fun a o e nb => ?_, R.len, R.sl, R.sep, fun i a oa => ?_, R.bag, fun a o e => ?_, R.sz, fun i y sh cs ess e => ⟨(R.hd i y sh cs ess e).1, (R.hd i y sh cs ess e).2.base fun a o e _ => low a o e⟩⟩, n.nd, n.nx, n.len, ⟨by rw [hideH_in List.mem_cons_self]; exact n.out.1, n.out.2⟩, fun k b hk => ?_⟩
  · by_cases ha : a ∈ x :: bs
    · rw [hideH_in ha] at e; exact e
    · rw [hideH_out ha] at e; exact R.ent a o e nb
  · have na : a ∉ x :: bs := fun z => (n.new a z).2 i oa
    rw [hideH_out na]; exact R.own i a oa
  · have na : a ∉ x :: bs := fun z => by rw [gN a z] at e; cases e
    rw [hideH_out na]; exact R.gn a o e
  · obtain ⟨h1, h2, vs, ds, h3, h4, h5⟩ := n.inn k b hk
    exact ⟨h1, h2, vs, ds, h3, by rw [hideH_in (List.mem_cons_of_mem _ (List.mem_of_getElem? hk))]; exact h4, h5⟩
theorem Up.hide (u : Up B H0 G0 H1 G1) {L : List Addr} (f : ∀ a ∈ L, H1 a = none ∧ NotB B a) : Up B H0 G0 (hideH L H H1) G1 ∧ ∀ a ∈ L, H0 a = none := by
  have f0 : ∀ a ∈ L, H0 a = none := fun a ha => u.no (f a ha).1 (f a ha).2
  exact ⟨⟨fun a o e nb => by rw [hideH_out fun z => by rw [f0 a z] at e; cases e]; exact u.hh a o e nb, u.gg, u.gn⟩, f0⟩
end
end DL
set_option Elab.async false
set_option linter.all false
set_option maxRecDepth 100000
set_option maxHeartbeats 4000000
namespace DL
open PySem PySem.Spec PyProof.Rows L2
end DL
set_option Elab.async false
set_option linter.all false
set_option maxRecDepth 100000
set_option maxHeartbeats 4000000
namespace DL
open PySem PySem.Spec PyProof.Rows L2
section
variable {prog : Program} {w : World} {A : Around} {E : Value → Shared → Prop} {s : Shared}
theorem meets_enumT (a : Addr) (items : Array Value) :
    Meets (Builtin.«enumerate.__new__» ⟨[.type "enumerate", .ref a], []⟩) (fun _ R s => s.heap.IsTuple a items ∧
      R (.ok (.ret (.ref (s.heap.push { cls := .type "tuple_iterator", data := .fields #[.ref a, .int 0 0] }).objs.size)))
        { s with heap := (s.heap.push { cls := .type "tuple_iterator", data := .fields #[.ref a, .int 0 0] }).push { cls := .type "enumerate", data := .fields #[.none, .bool false, .ref s.heap.objs.size, rawInt 0, .none, .none] } }) :=
  .of_wp fun prog w A R s h => by
    obtain ⟨hp, g, d, tk, os⟩ := s; obtain ⟨h1, h⟩ := h
    have hsub := sub_enumerate
    have q1 : ∀ {A' : Around} {E : Value → Shared → Prop} {Q : Value → Shared → Prop}, Q (.ref hp.objs.size) ⟨hp.push { cls := .type "tuple_iterator", data := .fields #[.ref a, .int 0 0] }, g, d, tk, os⟩ → wpAny (model prog w) A' (pyIter (.ref a)) Q E ⟨hp, g, d, tk, os⟩ :=
      fun q => (begins_tuple a items).iter prog w _ _ ⟨hp, g, d, tk, os⟩ _ h1 q
    wp_walk using q1
    refine wpAny_stack_any fun st => wpAny_pure ?_
    split
    · rename_i c _ _ _ _ _
      cases (c == Value.type "enumerate")
      · wp_walk using q1
        exact ⟨_, rfl, h⟩
      · wp_walk using q1
        exact ⟨_, rfl, h⟩
    · wp_walk using q1
      exact ⟨_, rfl, h⟩
theorem call_enumT {a : Addr} {items : Array Value} {Q : Value → Shared → Prop} (hL : s.heap.IsTuple a items)
    (h : ∀ h', IsEnum h' (s.heap.objs.size + 1) s.heap.objs.size 0 .none → h'.IsTupleIter s.heap.objs.size a 0 →
      (∀ b o, s.heap.get? b = some o → h'.get? b = some o) → Q (.ref (s.heap.objs.size + 1)) { s with heap := h' }) :
    wpAny (model prog w) A (call (.type "enumerate") [.ref a]) Q E s := by
  refine callType_new F.called_enumerate (by decide) (F.typeCall_enumerate_1 _) (F.newCall_enumerate_1 _) (fun obj => F.args_object_init_2 obj _) F.entry_enumerate_new
    (meets_enumT a items) ⟨hL, ?_⟩
  have hz : (s.heap.push { cls := .type "tuple_iterator", data := .fields #[.ref a, .int 0 0] }).objs.size = s.heap.objs.size + 1 := Heap.size_push ..
  show _ ∧ _
  rw [hz]
  have he : IsEnum ((s.heap.push { cls := .type "tuple_iterator", data := .fields #[.ref a, .int 0 0] }).push
      { cls := .type "enumerate", data := .fields #[.none, .bool false, .ref s.heap.objs.size, rawInt 0, .none, .none] }) (s.heap.objs.size + 1) s.heap.objs.size 0 .none := by
    have := Heap.get?_push_size (s.heap.push { cls := .type "tuple_iterator", data := .fields #[.ref a, .int 0 0] })
      (o := { cls := .type "enumerate", data := .fields #[.none, .bool false, .ref s.heap.objs.size, rawInt 0, .none, .none] }) rfl
    rw [hz] at this; exact this
  refine ⟨⟨_, he, rfl⟩, h _ he ⟨_, Heap.get?_push_of_some _ (Heap.get?_push_size _ rfl), rfl, rfl⟩ fun b o x => Heap.get?_push_of_some _ (Heap.get?_push_of_some _ x)⟩
end
def IteT (K : PySem.W.Frag) (a : Addr) : It :=
  ⟨fun i H => ∃ (xs : List V) (x : V), SqT K H a xs ∧ xs[i]? = some x, fun i H v H' => ∃ T x, v = .ref T ∧ H T = none ∧ H' = upd H T (.tup [.int (i : Nat), x]) ∧ ∀ xs, SqT K H a xs → xs[i]? = some x, fun i H => ∃ xs : List V, SqT K H a xs ∧ i = xs.length⟩
theorem turn_enumT {P : Program} {w : World} {K : PySem.W.Frag} {elts : List Expr} {kk : Nat} {tpos : Pos} (a e it : Addr) :
    Turn P w K (.Tuple elts kk tpos) (IteT K a) [e, it] e (fun i h => (∃ old, IsEnum h e it ((i : Nat) : Int) old) ∧ h.IsTupleIter it a i ∧ e ≠ it ∧ e ≠ a ∧ a ≠ it) where
  mem := by simp
  obj := fun i h st b hb => by
    obtain ⟨⟨old, he⟩, ⟨o, ho, hc, hd⟩, _⟩ := st
    have e' : b = e ∨ b = it := by simpa using hb
    rcases e' with z | z
    · rw [z]; exact ⟨_, he, fun v q => nomatch q⟩
    · rw [z]; exact ⟨o, ho, fun v q => by rw [hd] at q; cases q⟩
  keep := fun i h h' st k => let ⟨⟨old, he⟩, hi, hne⟩ := st; ⟨⟨old, k e (by simp) _ he⟩, hi.at fun o q => k it (by simp) o q, hne⟩
  item := by
    intro X hP hw hK hc i pins s σ H E I hf st hg
    subst hP hw hK
    obtain ⟨⟨old, he⟩, hit, hne, hea, hai⟩ := st
    obtain ⟨xs, x, hq, hx⟩ := hg
    obtain ⟨its, rv, p, hz⟩ := I.tuple hq
    obtain ⟨u, hu, ru⟩ := rv.get hx
    have hel : e < s.heap.objs.size := Heap.lt_size he
    have hil : it < s.heap.objs.size := by obtain ⟨_, q, _⟩ := hit; exact Heap.lt_size q
    have hh : X.A.in1.handled = none := I.ok.hd hc
    have n1 : i < its.toArray.size := by
      have := (List.getElem?_eq_some_iff.mp hu).1
      simpa using this
    refine wpAny_pyNext_enum_itemC (Draws.tuple hh it a hai its.toArray) he ⟨hit, show s.heap.IsTuple a its.toArray from p⟩ n1 hne (fun z => by
      simp only [List.mem_cons, List.not_mem_nil, or_false] at z
      rcases z with z | z
      · exact hne z
      · exact hea z) fun y h' tk hy ho st1 hT hsz hk => ?_
    have e1 : y = u := by
      have z := hu.symm.trans (by simpa using hy)
      exact (Option.some.inj z).symm
    subst e1
    refine ⟨_, rfl, wpAny_letOwnedTupleGo_enum (s := { s with heap := h', toks := tk + 1 }) ho fun h'' he' sb => ?_⟩
    have hT2 : h''.get? s.heap.objs.size = some { cls := .type "tuple", data := .seq #[.int i tk, y] } := (sb.2 _ (Nat.ne_of_gt hel)).trans hT
    have new : ObjOk X.prog X.w (upd H s.heap.objs.size (.tup [.int (i : Nat), x])) h'' s.heap.objs.size (.tup [.int (i : Nat), x]) :=
      ⟨by show 2 ≤ sizeLine; decide, [.int i tk, y], .cons ⟨_, rfl⟩ (.cons ru .nil), ⟨_, hT2, rfl, _, rfl⟩⟩
    have I1 : Inv X pins σ (upd H s.heap.objs.size (.tup [.int (i : Nat), x])) { s with heap := h'', toks := tk + 1 } :=
      I.turnedNew (t' := tk + 1) (ch := [e, it]) (fun b ob hb q => (sb.2 b (fun z => hb (by simp [z]))).trans (hk b ob (fun z => hb (by simp [z])) (fun z => hb (by simp [z])) q)) hf (Nat.le_refl _) new
    refine ⟨.ref s.heap.objs.size, _, I1, rfl, ⟨_, x, rfl, I.hok.fresh (Nat.le_refl _), rfl, fun ys hy => by rw [I.tuple_inj hy hq]; exact hx⟩, ⟨⟨y, ?_⟩, st1.1.at fun o q => (sb.2 it (Ne.symm hne)).trans q, hne, hea, hai⟩, fun b hb => ?_⟩
    · have e1 : ((i + 1 : Nat) : Int) = (i : Int) + 1 := by omega
      rw [e1]; exact he'
    · have hb' : b < s.heap.objs.size := by
        have e' : b = e ∨ b = it := by simpa using hb
        rcases e' with z | z
        · rw [z]; exact hel
        · rw [z]; exact hil
      rw [upd_ne (Nat.ne_of_lt hb')]
      exact (hf b hb).1
  done := by
    intro X hP hw hK hc i pins s σ H E I hf st hg
    subst hP hw hK
    obtain ⟨⟨old, he⟩, hit, hne, hea, hai⟩ := st
    obtain ⟨xs, hq, hx⟩ := hg
    obtain ⟨its, rv, p, hz⟩ := I.tuple hq
    obtain ⟨f0, f1, f2, f3, f4, f5⟩ := hf it (by simp)
    have hl := rv.length
    have hh : X.A.in1.handled = none := I.ok.hd hc
    have hi : i = its.toArray.size := by rw [List.size_toArray, ← hl]; exact hx
    subst hi
    exact wpAny_pyNext_enum_endD (Draws.tuple hh it a hai its.toArray) he ⟨hit, show s.heap.IsTuple a its.toArray from p⟩ fun h' eb => ⟨rfl, I.turned (t' := s.toks) (fun b o hb q => eb b o hb q) f0 f1 f3 f4 f5⟩
  self := fun A i s Q E st h => let ⟨⟨_, he⟩, _⟩ := st; wpAny_pyIter_enum he h
def iEnumX (K : PySem.W.Frag) (ta : TA) : TI := fun σ H R => ta σ H fun vs H1 => ∃ a xs, vs = [.ref a] ∧ (SqL K H1 a xs ∧ R (Ite K a) H1 ∨ SqT K H1 a xs ∧ R (IteT K a) H1)
theorem pi_enumX {X : Cx} {e : Expr} {ta : TA} {p pos tpos : Pos} {elts : List Expr} {kk : Nat} (hg : Gl X "enumerate") (hm : X.mg "enumerate" = none) (ha : PA X [e] ta) (hs : starEach [e] X.env = [(false, eval e X.env)] := by rfl) :
    PI X (.Tuple elts kk tpos) (.Call (.Name "enumerate" p) [e] [] pos) (iEnumX X.K ta) := by
  refine ⟨fun pins s σ H R I h => ?_⟩
  refine Call_ (ld_blt I hg hm boot_enumerate (PyProof.Rows.callWith_type1 (thn (ha.run pos pins s σ H _ I h) fun us s1 ⟨vs, H1, I1, r1, q1⟩ => ?_) hs rfl))
  obtain ⟨a, xs, ex, q⟩ := q1
  subst ex
  cases r1 with
  | cons r rr =>
    cases rr
    cases r
    have fp : ∀ b, b ∈ [s1.heap.objs.size + 1, s1.heap.objs.size] → FpOk X pins H1 b := fun b hb => by
      have e' : b = s1.heap.objs.size + 1 ∨ b = s1.heap.objs.size := by simpa using hb
      have hle : s1.heap.objs.size ≤ b := by
        rcases e' with z | z
        · rw [z]; exact Nat.le_add_right _ _
        · rw [z]; exact Nat.le_refl _
      exact I1.fpOk hle (I1.hok.fresh hle)
    rcases q with ⟨hq, q⟩ | ⟨hq, q⟩
    · obtain ⟨its, rv, p', hz⟩ := I1.list hq
      refine call_enumerate_list p'.isList fun h' he hit hsz hk => wpAny_pyIter_enum he ?_
      have I2 : Inv X pins σ H1 { s1 with heap := h' } := I1.kept (t' := s1.toks) hk
      exact ⟨s1.heap.objs.size + 1, [s1.heap.objs.size + 1, s1.heap.objs.size], _, _, H1, rfl, I2, turn_enum a (s1.heap.objs.size + 1) s1.heap.objs.size, ⟨⟨.none, he⟩, hit, Nat.succ_ne_self _⟩, fp, q⟩
    · obtain ⟨its, rv, p', hz⟩ := I1.tuple hq
      have la : a < s1.heap.objs.size := by obtain ⟨o, e, _⟩ := id p'; exact Heap.lt_size e
      refine call_enumT (show s1.heap.IsTuple a its.toArray from p') fun h' he hit hk => wpAny_pyIter_enum he ?_
      have I2 : Inv X pins σ H1 { s1 with heap := h' } := I1.kept (t' := s1.toks) hk
      exact ⟨s1.heap.objs.size + 1, [s1.heap.objs.size + 1, s1.heap.objs.size], _, _, H1, rfl, I2, turn_enumT a (s1.heap.objs.size + 1) s1.heap.objs.size, ⟨⟨.none, he⟩, hit, Nat.succ_ne_self _, Nat.ne_of_gt (Nat.lt_succ_of_lt la), Nat.ne_of_lt la⟩, fp, q⟩
theorem itOk_enumT {K : PySem.W.Frag} {G : Hp} {a : Addr} {vs : List V} {xs : List D} (h1 : SqD K G a vs) (h2 : DdA K G vs xs) : ItOk K G (IteT K a) (enumD 0 xs) := by
  intro B H0 G0 H σ δ G2 R sG
  have hq : SqT K H a vs := sameT R.sub (sameD sG h1)
  refine ⟨fun i d e => ?_, ⟨vs, hq, by rw [enumD_len, h2.len]⟩⟩
  obtain ⟨x0, e0, rfl⟩ := enumD_get xs 0 i d e
  obtain ⟨v, ev, hv⟩ := h2.get e0
  refine ⟨⟨vs, v, hq, ev⟩, fun x H3 y => ?_⟩
  obtain ⟨T, x1, rfl, nT, rfl, y2⟩ := y
  have z := y2 vs hq
  rw [ev] at z; cases z
  obtain ⟨R3, s3⟩ := R.laidG (o := .tup [.int (i : Nat), v]) nT (by show (2 : Nat) ≤ sizeLine; decide)
  refine ⟨_, R3, s3, Fra.upd nT, .tup (.inl upd_same) (.cons ?_ (.cons (Dd.mono (sG.trans s3) _ _ hv) .nil))⟩
  rw [Nat.zero_add]
  exact .int _
def tdEnumX (t : TDA) : TDI := fun δ Q => t δ fun rs δ' => match rs with
  | [.dt (.lst xs)] => Q (enumD 0 xs) δ'
  | [.dt (.tup xs)] => Q (enumD 0 xs) δ'
  | _ => False
theorem pdi_enumX {X : Cx} {e : Expr} {u : TDA} {p pos tpos : Pos} {elts : List Expr} {kk : Nat} (hg : Gl X "enumerate") (hm : X.mg "enumerate" = none) (h : PDA X [e] u) (hs : starEach [e] X.env = [(false, eval e X.env)] := by rfl) : PDI X (.Tuple elts kk tpos) (.Call (.Name "enumerate" p) [e] [] pos) (tdEnumX u) := by
  refine ⟨PI.weak (pi_enumX hg hm h.pa hs) fun σ H Rr ⟨B, H0, G0, δ, G, R, q⟩ => ⟨B, H0, G0, δ, G, R, h.mono _ _ _ q fun rs δ1 q vs H1 G1 R1 s1 f1 oks => ?_⟩, fun δ Q Q' q w => h.mono _ _ _ q fun r δ' q => ?_⟩
  · split at q
    · obtain ⟨v, rfl, hd⟩ := arg1 oks
      cases hd with
      | lst g1 g2 => exact ⟨_, _, rfl, .inl ⟨SqL.of (R1.sub _ _ g1), q _ _ _ R1 s1 f1 (itOk_enum g1 g2)⟩⟩
    · obtain ⟨v, rfl, hd⟩ := arg1 oks
      cases hd with
      | tup g1 g2 => exact ⟨_, _, rfl, .inr ⟨sameT R1.sub g1, q _ _ _ R1 s1 f1 (itOk_enumT g1 g2)⟩⟩
    · exact q.elim
  · split at q
    · exact w _ _ q
    · exact w _ _ q
    · exact q
def tdRev (t : TD) : TD := fun δ Q => t δ fun r δ' => match fz r with
  | some (.lst xs) => Q (.ol xs.reverse) δ'
  | _ => False
theorem DdA.rev {K : PySem.W.Frag} {G : Hp} : ∀ {ds : List D} {vs : List V}, DdA K G vs ds → DdA K G vs.reverse ds.reverse
  | [], _, .nil => .nil
  | _ :: _, _ :: _, .cons h t => by
    rw [List.reverse_cons, List.reverse_cons]
    exact (DdA.rev t).append (.one h)
section
variable {X : Cx} {e : Expr} {ta : TD} {pos p1 p2 p3 : Pos} {k : Nat}
theorem pd_rev (h : PD X e ta) : PD X (.Subscript e (.Slice none none (some (.UnaryOp .USub (.Constant (.int 1) k p1) p2)) p3) pos) (tdRev ta) := by
  refine ⟨PE.weak (pe_revL h.pe) fun σ H Q ⟨B, H0, G0, δ, G, R, q⟩ => ?_, fun δ Q Q' q w => h.mono _ _ _ q fun r δ1 q => ?_⟩
  · refine ⟨B, H0, G0, δ, G, R, h.mono _ _ _ q fun r δ1 q v H1 G1 R1 s1 f1 ok => ?_⟩
    split at q
    · rename_i xs e1
      obtain ⟨G2, R2, s2, hd⟩ := freeze R1 ok e1
      cases hd with
      | @lst a vs _ g1 g2 =>
        refine ⟨a, vs, rfl, SqL.of (R2.sub _ _ g1), fun p hp => ?_⟩
        exact aft_own (s := .ol _) R2 hp (by show vs.reverse.length ≤ _; rw [List.length_reverse]; exact R2.sz _ _ (R2.sub _ _ g1)) rfl ⟨_, upd_same, g2.rev⟩ (aftUp q (s1.trans s2) f1)
    · exact q.elim
  · split at q
    · exact w _ _ q
    · exact q
end
structure NoTy (K : PySem.W.Frag) (C : Addr) (T : Ty) : Prop where
  no : PySem.W.kitOne K (.ref C) (.type T.name) = some false
def noTyB (K : PySem.W.Frag) (C : Addr) (T : Ty) : Bool := PySem.W.kitOne K (.ref C) (.type T.name) == some false
theorem noTyB_ok {K : PySem.W.Frag} {C : Addr} {T : Ty} (h : noTyB K C T = true) : NoTy K C T := ⟨beq_iff_eq.mp h⟩
def InsOf (C : Addr) (d : D) : Prop := d.isIns = false ∨ ∃ ns ds, d = .ins C ns ds
theorem tyX_ofX {K : PySem.W.Frag} {B : Bg K} {H0 G0 H : Hp} {σ : L2.St} {δ : List Sl} {G : Hp} {C : Addr} {T U : Ty} (ic : IsC K C) (nT : NoTy K C T) (nU : NoTy K C U) (R : Rel K B H0 G0 H σ δ G) {v : V} {d : D} (h : Dd K G v d) (hi : InsOf C d) :
    ∃ t, TyX K H v t ∧ PySem.W.kitOne K t (.type T.name) = some (isTy T d) ∧ PySem.W.kitOne K t (.type U.name) = some (isTy U d) := by
  rcases hi with hi | ⟨ns, ds, rfl⟩
  · exact ⟨_, tyX_of R h hi, kit_ty (kit_isTy T d hi), kit_ty (kit_isTy U d hi)⟩
  · obtain ⟨a, dx, fs, rfl, ha⟩ := ins_at R h
    exact ⟨.ref C, .base (.ins ha ic.cl ic.ha ic.hn ic.htk ic.hm), by rw [nT.no]; cases T <;> rfl, by rw [nU.no]; cases U <;> rfl⟩
end DL
set_option Elab.async false
set_option linter.all false
set_option maxRecDepth 100000
set_option maxHeartbeats 4000000
namespace DL
open PySem PySem.Spec PyProof.Rows L2
open LamX (TabB CodeO LamS lamEnv lamCx)
abbrev TL := (Sl → Prop) → (Addr → List Str → List D → Prop) → Prop
def MonoL (L : TL) : Prop := ∀ (Q Q' : Sl → Prop) (W W' : Addr → List Str → List D → Prop), L Q W → (∀ r, Q r → Q' r) → (∀ C ns ds, W C ns ds → W' C ns ds) → L Q' W'
def tdAct (i : Nat) (s : Sl) (L : TL) : TDE := fun δ Q W => δ[i]? = some s ∧ L (fun r => Q r δ) (fun C ns ds => W C ns ds δ)
structure FnL (P : Program) (w : World) (K : PySem.W.Frag) (mg : Str → Option Value) (base : Heap) (k : Nat) (x : Str) (TH : TL → (Sl → Prop) → Prop) : Prop where
  ex : ∃ (g : Addr) (fd : FuncData) (st : Stmt) (a : Str) (Ng : List Str), Fun K x x st g fd ∧ mg x = some (.ref g) ∧ Binds K fd [a] [] ∧ FnScope Ng [a] (defScope st) ∧ Ng[0]? = some a ∧ Vis (defScope st) a ∧ (a == ("__debug__" : Str)) = false ∧ (a == ("__classdict__" : Str)) = false ∧
    ∀ (cdg : Value) (A : Around) (outer : List Env) (s : Shared) (H : Hp) (L : TL) (sf : Sl), MonoL L → Room k (A.deeper (envOfC x (defScope st) s.heap.objs.size g cdg)) →
      (∀ (pn : List (Addr × Obj)) (xe : Value → Shared → Prop) (p1 p2 : Pos), PDE ((cxOf CX0 P w K mg base Ng x (defScope st) g cdg A outer s H E0).tr pn xe) (.Call (.Name a p1) [] [] p2) (tdAct 0 sf L)) →
      ∃ tS, PDSs (cxOf CX0 P w K mg base Ng x (defScope st) g cdg A outer s H E0).nox (defBody st) tS ∧ ∀ Q : Sl → Prop, TH L Q → tS { nx := fun _ => Q (.dt .non), rt := fun r _ => Q r } (startD Ng [sf])
  mono : ∀ (L : TL) (Q Q' : Sl → Prop), MonoL L → TH L Q → (∀ r, Q r → Q' r) → TH L Q'
theorem FnL.of {P : Program} {w : World} {K : PySem.W.Frag} {mg : Str → Option Value} {base : Heap} {k : Nat} {x a : Str} {st : Stmt} {Ng : List Str} {TH : TL → (Sl → Prop) → Prop} (D : Dfn K mg x st [a]) (S : FnScope Ng [a] (defScope st)) (hN : Ng[0]? = some a) (hv : Vis (defScope st) a)
    (mt : ∀ (L : TL) (Q Q' : Sl → Prop), MonoL L → TH L Q → (∀ r, Q r → Q' r) → TH L Q')
    (hb : ∀ (g : Addr) (cdg : Value) (A : Around) (outer : List Env) (s : Shared) (H : Hp) (L : TL) (sf : Sl), MonoL L → Room k (A.deeper (envOfC x (defScope st) s.heap.objs.size g cdg)) →
      (∀ (pn : List (Addr × Obj)) (xe : Value → Shared → Prop) (p1 p2 : Pos), PDE ((cxOf CX0 P w K mg base Ng x (defScope st) g cdg A outer s H E0).tr pn xe) (.Call (.Name a p1) [] [] p2) (tdAct 0 sf L)) →
      ∃ tS, PDSs (cxOf CX0 P w K mg base Ng x (defScope st) g cdg A outer s H E0).nox (defBody st) tS ∧ ∀ Q : Sl → Prop, TH L Q → tS { nx := fun _ => Q (.dt .non), rt := fun r _ => Q r } (startD Ng [sf]))
    (hd : (a == ("__debug__" : Str)) = false := by decide) (hcd : (a == ("__classdict__" : Str)) = false := by decide) : FnL P w K mg base k x TH := by
  obtain ⟨f, fd, F, hm, hbd⟩ := D.ex
  exact ⟨⟨f, fd, st, a, Ng, F, hm, hbd, S, hN, hv, hd, hcd, fun cdg A outer s H L sf mL hr act => hb f cdg A outer s H L sf mL hr act⟩, mt⟩
end DL
set_option Elab.async false
set_option linter.all false
set_option maxRecDepth 100000
set_option maxHeartbeats 4000000
namespace DL
open PySem PySem.Spec PyProof.Rows L2
structure FnR (P : Program) (w : World) (K : PySem.W.Frag) (mg : Str → Option Value) (base : Heap) (k : Nat) (x : Str) (n : Nat) (t : TFE) : Prop where
  ex : ∃ f fd ps, FnOk P w K mg base (L2.CX P w) k f fd ps (spE K n t) ∧ mg x = some (.ref f) ∧ PySem.W.keepIn K (.ref f) = true ∧ Binds K fd ps []
  mono : MonoE t
  len : ∀ rs Q W, t rs Q W → rs.length = n
theorem FnR.of {P : Program} {w : World} {K : PySem.W.Frag} {mg : Str → Option Value} {base : Heap} {x : Str} {st : Stmt} {N ps : List Str} {k n : Nat} {t : TFE} (D : Dfn K mg x st ps) (S : FnScope N ps (defScope st)) (hn : ps.length = n) (mt : MonoE t) (ln : ∀ rs Q W, t rs Q W → rs.length = n)
    (hb : ∀ (f : Addr) (cdv : Value) (A : Around) (outer : List Env) (s : Shared) (H : Hp) (E : XK), Room k (A.deeper (envOfC x (defScope st) s.heap.objs.size f cdv)) →
      ∃ tS, PDSs (cxOf (L2.CX P w) P w K mg base N x (defScope st) f cdv A outer s H E) (defBody st) tS ∧ ∀ rs (Q : Sl → Prop) (W : Addr → List Str → List DL.D → Prop), t rs Q W → tS { nx := fun _ => Q (.dt .non), rt := fun r _ => Q r, ex := fun C ns ds _ => W C ns ds } (startD N rs)) :
    FnR P w K mg base (k + 1) x n t := by
  obtain ⟨f, fd, F, hm, hbd⟩ := D.ex
  exact ⟨⟨f, fd, ps, fnE F S hn (fun cdv A outer s H E hr => hb f cdv A outer s H E hr), hm, F.kp, hbd⟩, mt, ln⟩
end DL
set_option Elab.async false
set_option linter.all false
set_option maxRecDepth 100000
set_option maxHeartbeats 4000000
namespace DL
open PySem PySem.Spec PyProof.Rows L2
end DL
set_option Elab.async false
set_option linter.all false
set_option maxRecDepth 100000
set_option maxHeartbeats 4000000
namespace DL
open PySem PySem.Spec PyProof.Rows L2
end DL
set_option Elab.async false
set_option linter.all false
set_option maxRecDepth 100000
set_option maxHeartbeats 4000000
namespace PySem.SeqAt
open PySem PySem.Spec
section
variable {prog : Program} {w : World}
theorem tuple_eqP (l b : Addr) (items items2 : Array Value) (n n2 : Nat) (dd dd2 : Option Addr) (sl sl2 : Array (Option Value)) (e : Nat → Bool) :
    MeetsIn prog w (Builtin.«tuple.__eq__» ⟨[.ref l, .ref b], []⟩)
      (fun A R s => s.heap.get? l = some { cls := .type "tuple", dict := dd, data := .seq items n, slots := sl } ∧ s.heap.get? b = some { cls := .type "tuple", dict := dd2, data := .seq items2 n2, slots := sl2 } ∧
        (∀ j (h1 : j < items.size) (h2 : j < items2.size), EqP prog w A.in1 s items[j] items2[j] (e j)) ∧
        R (.ok (.ret (.bool ((List.range (min items.size items2.size)).all e && items.size == items2.size)))) s) := by
    intro A R s h
    obtain ⟨hp, g, d, tk, os⟩ := s; obtain ⟨hl, hb, he, h⟩ := h
    have f2 := AutoSeq1.sub_tuple_tuple
    have hZ : (items.toList.zip items2.toList).length = min items.size items2.size := by simp
    wp_walk using wpAny_loadPart' hl, wpAny_loadPart' hb, wpAny_forIn_list _ (fun rest b s' => b.1 = none ∧ s' = ⟨hp, g, d, tk, os⟩ ∧ ∃ i, rest = (items.toList.zip items2.toList).drop i ∧
      R (.ok (.ret (.bool (((List.range (min items.size items2.size)).drop i).all e && items.size == items2.size)))) ⟨hp, g, d, tk, os⟩) _
    case turn =>
      rintro ⟨y, x⟩ rest b s' ⟨hb', rfl, i, hz, hR⟩
      have hlt : i < (items.toList.zip items2.toList).length := by
        rcases Nat.lt_or_ge i (items.toList.zip items2.toList).length with h' | h'
        · exact h'
        · rw [List.drop_of_length_le h'] at hz; cases hz
      have hm : i < min items.size items2.size := hZ ▸ hlt
      have h1 : i < items.size := Nat.lt_of_lt_of_le hm (Nat.min_le_left _ _)
      have h2 : i < items2.size := Nat.lt_of_lt_of_le hm (Nat.min_le_right _ _)
      rw [List.drop_eq_getElem_cons hlt] at hz
      injection hz with hyx hrest
      have hy : y = items[i] := by have := congrArg Prod.fst hyx; simpa using this
      have hx : x = items2[i] := by have := congrArg Prod.snd hyx; simpa using this
      subst hy hx
      have hd : (List.range (min items.size items2.size)).drop i = i :: (List.range (min items.size items2.size)).drop (i + 1) := by simp [List.drop_eq_getElem_cons, hm]
      rw [hd, List.all_cons] at hR
      refine wpAny_bind (he i h1 h2 _ _ ?_)
      cases hy : e i with
      | true =>
        rw [hy] at hR
        wp_walk
        exact ⟨rfl, rfl, i + 1, hrest, by simpa using hR⟩
      | false =>
        rw [hy] at hR
        wp_walk
        simpa using hR
    case fin =>
      rintro ⟨b1, b2⟩ s' ⟨hb', rfl, i, hz, hR⟩
      simp only at hb'
      subst hb'
      have hge : min items.size items2.size ≤ i := by
        rcases Nat.lt_or_ge i (items.toList.zip items2.toList).length with h' | h'
        · rw [List.drop_eq_getElem_cons h'] at hz; cases hz
        · exact hZ ▸ h'
      rw [List.drop_of_length_le (by simpa using hge)] at hR
      wp_walk
      simpa [Builtin.Tuple.tupleCompareSizes] using hR
    case h =>
      exact ⟨rfl, rfl, 0, rfl, by simpa using h⟩
theorem rcP_tuples {A : Around} {s : Shared} {l b : Addr} {items items2 : Array Value} {e : Nat → Bool} (hl : s.heap.IsTuple l items) (hb : s.heap.IsTuple b items2) (hu : A.units < cLine)
    (he : ∀ j (h1 : j < items.size) (h2 : j < items2.size), EqP prog w A.in1 s items[j] items2[j] (e j)) (E Q : Value → Shared → Prop) (h : Q (.bool ((List.range (min items.size items2.size)).all e && items.size == items2.size)) s) : wpAny (model prog w) A (richCompare .Eq (.ref l) (.ref b)) Q E s := by
  obtain ⟨⟨cls, dd, data, sl⟩, ho, hc, n, hd⟩ := id hl
  obtain ⟨⟨cls2, dd2, data2, sl2⟩, ho2, hc2, n2, hd2⟩ := id hb
  simp only at hc hd hc2 hd2
  subst hc hd hc2 hd2
  have ta : s.TypeIs (.ref l) "tuple" := ⟨_, ho, rfl⟩
  have tb : s.TypeIs (.ref b) "tuple" := ⟨_, ho2, rfl⟩
  exact wpAny_richCompare_same_room (op := .Eq) ta tb F.slot_tuple_eq (call_meetsIn F.slot_tuple_eq ta F.entry_tuple_eq (F.args_tuple_eq_2 _ _) (tuple_eqP l b items items2 n n2 dd dd2 sl sl2 e)
    ⟨ho, ho2, he, show Value.bool ((List.range (min items.size items2.size)).all e && items.size == items2.size) ≠ Value.notImplemented ∧ Q (.bool ((List.range (min items.size items2.size)).all e && items.size == items2.size)) s from ⟨(fun x => nomatch x), h⟩⟩) hu
end
end PySem.SeqAt
set_option Elab.async false
set_option linter.all false
set_option maxRecDepth 100000
set_option maxHeartbeats 4000000
namespace DL
open PySem PySem.Spec PyProof.Rows L2
mutual
def nodK : D → Bool
  | .lst xs => nodKA xs
  | .tup xs => nodKA xs
  | .dK ks vs => decide ks.Nodup && nodKA vs
  | .dT _ _ => false
  | .dL _ _ => false
  | .ins _ _ _ => false
  | .non => true
  | .bl _ => true
  | .int _ => true
  | .str _ => true
def nodKA : List D → Bool
  | [] => true
  | x :: xs => nodK x && nodKA xs
end
theorem nodKA_mem : ∀ {xs : List D} {x : D}, nodKA xs = true → x ∈ xs → nodK x = true
  | y :: ys, x, h, hm => by
    rw [nodKA, Bool.and_eq_true] at h
    rcases List.mem_cons.mp hm with rfl | hm
    · exact h.1
    · exact nodKA_mem h.2 hm
structure Eqd (n : Nat) (d : D) : Prop where
  plain : plainD d = true
  nod : nodK d = true
  dep : (py d).depth ≤ n
def EqF (K : PySem.W.Frag) (G : Hp) (n : Nat) (x y : V) : Prop := ∃ d, Dd K G x d ∧ Dd K G y d ∧ Eqd n d
theorem depA_in : ∀ {xs : List D} {x : D}, x ∈ xs → (py x).depth ≤ PyData.depthAll (pyA xs)
  | y :: ys, x, h => by
    rcases List.mem_cons.mp h with rfl | h
    · exact Nat.le_max_left _ _
    · exact Nat.le_trans (depA_in h) (Nat.le_max_right _ _)
theorem depKv_in : ∀ {ks : List Key} {ds : List D} {x : D}, ks.length = ds.length → x ∈ ds → (py x).depth ≤ PyData.depthKv ((ks.map keyPy).zip (pyA ds))
  | [], y :: ys, x, e, h => by cases e
  | k :: ks, y :: ys, x, e, h => by
    show _ ≤ max (max (keyPy k).depth (py y).depth) (PyData.depthKv ((ks.map keyPy).zip (pyA ys)))
    rcases List.mem_cons.mp h with rfl | h
    · exact Nat.le_trans (Nat.le_max_right _ _) (Nat.le_max_left _ _)
    · exact Nat.le_trans (depKv_in (by simpa using e) h) (Nat.le_max_right _ _)
theorem paired_F {K : PySem.W.Frag} {G : Hp} {n : Nat} : ∀ {ds : List D} {xs ys : List V}, DdA K G xs ds → DdA K G ys ds → (∀ d ∈ ds, Eqd n d) → Paired (EqF K G n) xs ys
  | [], [], [], .nil, .nil, _ => .nil
  | d :: ds, x :: xs, y :: ys, .cons h1 t1, .cons h2 t2, h => .cons ⟨d, h1, h2, h d List.mem_cons_self⟩ (paired_F t1 t2 fun z hz => h z (List.mem_cons_of_mem _ hz))
theorem zip_hit {K : PySem.W.Frag} {G : Hp} {n : Nat} : ∀ {ks : List Key} {ds : List D} {xs ys : List V}, DdA K G xs ds → DdA K G ys ds → ks.Nodup → (∀ d ∈ ds, Eqd n d) → ∀ p ∈ ks.zip xs, ∃ u, valV (ks.zip ys) p.1 = some u ∧ EqF K G n p.2 u
  | [], _, _, _, _, _, _, _, p, hp => by cases hp
  | k :: ks, [], [], [], .nil, .nil, _, _, p, hp => by cases hp
  | k :: ks, d :: ds, x :: xs, y :: ys, .cons h1 t1, .cons h2 t2, nd, h, p, hp => by
    rw [List.zip_cons_cons] at hp ⊢
    rw [List.nodup_cons] at nd
    rcases List.mem_cons.mp hp with rfl | hp
    · exact ⟨y, by unfold valV; rw [List.find?_cons_of_pos (by simp)]; rfl, d, h1, h2, h d List.mem_cons_self⟩
    · have hk : p.1 ∈ ks := (List.of_mem_zip hp).1
      have ne : ¬ k = p.1 := fun z => nd.1 (z ▸ hk)
      obtain ⟨u, e, f⟩ := zip_hit t1 t2 nd.2 (fun z hz => h z (List.mem_cons_of_mem _ hz)) p hp
      refine ⟨u, ?_, f⟩
      unfold valV at e ⊢
      rw [List.find?_cons_of_neg (by simpa using ne)]
      exact e
section
variable {X : Cx} {pins : List (Addr × Obj)} {σ : L2.St} {H G : Hp} {s : Shared}
theorem eqTop (I : Inv X pins σ H s) (sub : Same G H) {A : Around} {n : Nat} (hu : A.units < cLine) (ih : ∀ x y v u, EqF X.K G n x y → RelV x v → RelV y u → SeqAt.EqP X.prog X.w A.in1 s v u true) {x y : V} {v u : Value} {d : D}
    (hx : Dd X.K G x d) (hy : Dd X.K G y d) (h : Eqd (n + 1) d) (hc : (∃ xs, d = .lst xs) ∨ (∃ xs, d = .tup xs) ∨ ∃ ks ds, d = .dK ks ds) (rx : RelV x v) (ry : RelV y u) (E Q : Value → Shared → Prop) (q : Q (.bool true) s) : wpAny (model X.prog X.w) A (richCompare .Eq v u) Q E s := by
  rcases hc with ⟨xs, rfl⟩ | ⟨xs, rfl⟩ | ⟨ks, ds, rfl⟩
  · have hd : ∀ z ∈ xs, Eqd n z := fun z hz => ⟨plainA_mem (show plainA xs = true from h.plain) hz, nodKA_mem (by have := h.nod; rw [nodK] at this; exact this) hz, by have := depA_in hz; have k : PyData.depthAll (pyA xs) + 1 ≤ n + 1 := h.dep; omega⟩
    cases hx with
    | @lst a vs _ g1 g2 =>
      cases hy with
      | @lst b ws _ g3 g4 =>
        cases (show v = Value.ref a from rx)
        cases (show u = Value.ref b from ry)
        obtain ⟨us, r1, p1, _⟩ := I.list (SqL.of (sub _ _ g1))
        obtain ⟨us2, r2, p2, _⟩ := I.list (SqL.of (sub _ _ g3))
        have hp := paired_F g2 g4 hd
        have hsz : us.toArray.size = us2.toArray.size := by
          rw [List.size_toArray, List.size_toArray, ← r1.length, ← r2.length]
          exact Paired.length hp
        refine SeqAt.rcP_lists (e := fun _ => true) p1.isList p2.isList hsz hu (fun j h1 h2 => ?_) E Q ?_
        · have k := items_run ih hp r1 r2 j (by simpa using h1) (by simpa using h2)
          simpa using k
        · rw [show ((List.range us.toArray.size).all fun _ => true) = true from List.all_eq_true.mpr fun _ _ => rfl]
          exact q
  · have hd : ∀ z ∈ xs, Eqd n z := fun z hz => ⟨plainA_mem (show plainA xs = true from h.plain) hz, nodKA_mem (by have := h.nod; rw [nodK] at this; exact this) hz, by have := depA_in hz; have k : PyData.depthAll (pyA xs) + 1 ≤ n + 1 := h.dep; omega⟩
    cases hx with
    | @tup a vs _ g1 g2 =>
      cases hy with
      | @tup b ws _ g3 g4 =>
        cases (show v = Value.ref a from rx)
        cases (show u = Value.ref b from ry)
        obtain ⟨us, r1, p1, _⟩ := I.tuple (sameT sub g1)
        obtain ⟨us2, r2, p2, _⟩ := I.tuple (sameT sub g3)
        have hp := paired_F g2 g4 hd
        have hsz : us.toArray.size = us2.toArray.size := by
          rw [List.size_toArray, List.size_toArray, ← r1.length, ← r2.length]
          exact Paired.length hp
        refine SeqAt.rcP_tuples (e := fun _ => true) (show s.heap.IsTuple a us.toArray from p1) (show s.heap.IsTuple b us2.toArray from p2) hu (fun j h1 h2 => ?_) E Q ?_
        · have k := items_run ih hp r1 r2 j (by simpa using h1) (by simpa using h2)
          simpa using k
        · rw [show ((List.range (min us.toArray.size us2.toArray.size)).all fun _ => true) = true from List.all_eq_true.mpr fun _ _ => rfl, hsz]
          simpa using q
  · have hd : ∀ z ∈ ds, Eqd n z := fun z hz => ⟨plainA_mem (by have := h.plain; rw [plainD, Bool.and_eq_true] at this; exact this.2) hz, nodKA_mem (by have := h.nod; rw [nodK, Bool.and_eq_true] at this; exact this.2) hz, by
      have hk : ks.length = ds.length := by have := h.plain; rw [plainD, Bool.and_eq_true] at this; exact of_decide_eq_true this.1
      have := depKv_in hk hz
      have k : PyData.depthKv ((ks.map keyPy).zip (pyA ds)) + 1 ≤ n + 1 := h.dep
      omega⟩
    have nd : ks.Nodup := by have := h.nod; rw [nodK, Bool.and_eq_true] at this; exact of_decide_eq_true this.1
    cases hx with
    | @dK a _ vs _ g0 g1 g2 =>
      cases hy with
      | @dK b _ ws _ g3 g4 g5 =>
        cases (show v = Value.ref a from rx)
        cases (show u = Value.ref b from ry)
        obtain ⟨_, ya, va, ra, da⟩ := (show ObjOk X.prog X.w H s.heap a (.dK (ks.zip vs)) from rd_of I.hok (rdS sub g1))
        obtain ⟨_, yb, vb, rb, db⟩ := (show ObjOk X.prog X.w H s.heap b (.dK (ks.zip ws)) from rd_of I.hok (rdS sub g4))
        refine PySem.W.rcP_dicts (knd := mixKind X.prog X.w) (r := true) ya yb da db hu (fun _ => hits_run ih rb ra (zip_hit g2 g5 nd hd)) E Q ?_
        have e : va.length = vb.length := by rw [← ra.length, ← rb.length, List.length_zip, List.length_zip, g2.len, g5.len]
        rw [show (va.length == vb.length && true) = true from by rw [e]; simp]
        exact q
theorem eqD_run (I : Inv X pins σ H s) (sub : Same G H) : ∀ (n : Nat) (A : Around), A.units + n < cLine → ∀ (x y : V) (v u : Value), EqF X.K G n x y → RelV x v → RelV y u → SeqAt.EqP X.prog X.w A s v u true
  | n, A, hu, x, y, v, u, ⟨d, hx, hy, h⟩, rx, ry => by
    by_cases hc : (∃ xs, d = .lst xs) ∨ (∃ xs, d = .tup xs) ∨ ∃ ks ds, d = .dK ks ds
    · match n, hu, h with
      | 0, _, h =>
        exfalso
        have := h.dep
        rcases hc with ⟨xs, rfl⟩ | ⟨xs, rfl⟩ | ⟨ks, ds, rfl⟩ <;> exact Nat.not_succ_le_zero _ this
      | n + 1, hu, h =>
        have step := eqTop I sub (A := A) (n := n) (by omega) (eqD_run I sub n A.in1 (by show A.units + 1 + n < cLine; omega)) hx hy h hc rx ry
        obtain ⟨a, b, rfl, rfl⟩ : ∃ a b, x = .ref a ∧ y = .ref b := by
          rcases hc with ⟨xs, rfl⟩ | ⟨xs, rfl⟩ | ⟨ks, ds, rfl⟩
          · cases hx; cases hy; exact ⟨_, _, rfl, rfl⟩
          · cases hx; cases hy; exact ⟨_, _, rfl, rfl⟩
          · cases hx; cases hy; exact ⟨_, _, rfl, rfl⟩
        cases (show v = Value.ref a from rx)
        cases (show u = Value.ref b from ry)
        by_cases e : a = b
        · subst e
          exact (SeqAt.EqAt.same _).eqP
        · exact SeqAt.eqP_refs e step
    · have flat : x = y ∧ flatB x = true := by
        have pl := h.nod
        cases hx with
        | non => cases hy; exact ⟨rfl, rfl⟩
        | bl b => cases hy; exact ⟨rfl, rfl⟩
        | int i => cases hy; exact ⟨rfl, rfl⟩
        | str z => cases hy; exact ⟨rfl, rfl⟩
        | lst _ _ => exact absurd (.inl ⟨_, rfl⟩) hc
        | tup _ _ => exact absurd (.inr (.inl ⟨_, rfl⟩)) hc
        | dK _ _ _ => exact absurd (.inr (.inr ⟨_, _, rfl⟩)) hc
        | dT _ _ _ => rw [nodK] at pl; cases pl
        | dL _ _ _ => rw [nodK] at pl; cases pl
        | ins _ _ _ => rw [nodK] at pl; cases pl
      obtain ⟨rfl, f⟩ := flat
      exact (eqAt_same rx ry f).eqP
end
def rEqS (K : PySem.W.Frag) : R2 := fun x y H Q => ∃ d G, Same G H ∧ Dd K G x d ∧ Dd K G y d ∧ Eqd 60 d ∧ ((∃ xs, d = .lst xs) ∨ (∃ xs, d = .tup xs) ∨ ∃ ks ds, d = .dK ks ds) ∧ Q (.bl true) H
theorem op_eqS {X : Cx} (hu : X.A.units + 65 < cLine) : OpR X (compareOp .Eq) (rEqS X.K) := by
  intro pins s σ H x y v u Q I rx ry h
  obtain ⟨d, G, sub, hx, hy, h, hc, q⟩ := h
  exact eqTop I sub (A := X.A) (n := 60) (by omega) (eqD_run I sub 60 X.A.in1 (by show X.A.units + 1 + 60 < cLine; omega)) hx hy ⟨h.plain, h.nod, Nat.le_succ_of_le h.dep⟩ hc rx ry _ _ ⟨.bl true, H, I, rfl, q⟩
def conB : D → Bool
  | .lst _ => true
  | .tup _ => true
  | .dK _ _ => true
  | _ => false
def fEqS : FD2 := fun d e δ Q => d = e ∧ Eqd 60 d ∧ conB d = true ∧ Q (.dt (.bl true)) δ
theorem mono_fEqS : MonoF2 fEqS := fun d e δ Q Q' q w => ⟨q.1, q.2.1, q.2.2.1, w _ _ q.2.2.2⟩
theorem opS_eqS {K : PySem.W.Frag} : OpS K (rEqS K) fEqS := by
  intro B H0 G0 H σ δ G x y d e Q R hx hy q
  obtain ⟨rfl, h, hc, q⟩ := q
  refine ⟨d, G, R.sub, hx, hy, h, ?_, aft_here R (.bl _) q⟩
  cases d <;> first | (cases hc; done) | skip
  · exact .inl ⟨_, rfl⟩
  · exact .inr (.inl ⟨_, rfl⟩)
  · exact .inr (.inr ⟨_, _, rfl⟩)
end DL
set_option Elab.async false
set_option linter.all false
set_option maxRecDepth 100000
set_option maxHeartbeats 4000000
namespace DL
open PySem PySem.Spec PyProof.Rows L2
abbrev codT (K : PySem.W.Frag) : List (Addr × Addr) := (tabDs.filter fun p => PySem.W.codeHdIn K (He.cT K p.1).1 (He.cT K p.1).2).map fun p => He.cT K p.1
theorem codT_tb {K : PySem.W.Frag} {P : Addr} {q : Str} (h : (P, q) ∈ TbK K) : ∃ c, (c, P) ∈ codT K := by
  obtain ⟨p, h1, h2⟩ := List.mem_map.mp h
  cases h2
  exact ⟨_, List.mem_map.mpr ⟨p, h1, rfl⟩⟩
def dupB : List Addr → Bool
  | [] => true
  | a :: xs => !xs.contains a && dupB xs
theorem dupB_ok : ∀ {xs : List (Addr × Str)}, dupB (xs.map (·.1)) = true → ∀ P q q', (P, q) ∈ xs → (P, q') ∈ xs → q = q'
  | (a, s) :: xs, h, P, q, q', h1, h2 => by
    obtain ⟨e1, e2⟩ := Bool.and_eq_true_iff.mp (show (!(xs.map (·.1)).contains a && dupB (xs.map (·.1))) = true from h)
    have no : ∀ z, (a, z) ∉ xs := fun z hz => by
      have : (xs.map (·.1)).contains a = true := List.contains_iff_mem.mpr (List.mem_map.mpr ⟨_, hz, rfl⟩)
      rw [this] at e1; cases e1
    rcases List.mem_cons.mp h1 with z1 | z1
    · cases z1
      rcases List.mem_cons.mp h2 with z2 | z2
      · cases z2; rfl
      · exact absurd z2 (no _)
    · rcases List.mem_cons.mp h2 with z2 | z2
      · cases z2; exact absurd z1 (no _)
      · exact dupB_ok e2 P q q' z1 z2
structure TabL (must : List He.Defn) (K : PySem.W.Frag) (h : Heap) : Prop where
  hd : ∀ p ∈ must, PySem.W.codeHdIn K (He.cT K p).1 (He.cT K p).2 = true
  out : ∀ p ∈ codT K, K.lookup p.2 = none
  emp : ∀ p ∈ codT K, h.get? p.2 = some { cls := .none, data := .fields #[] }
  u : TbU K
theorem codT_hd {K : PySem.W.Frag} {p : Addr × Addr} (h : p ∈ codT K) : PySem.W.codeHdIn K p.1 p.2 = true := by
  obtain ⟨d, h1, rfl⟩ := List.mem_map.mp h
  exact (List.mem_filter.mp h1).2
def tabsEB (must : List He.Defn) (g : Addr → Option Obj) (K : PySem.W.Frag) : Bool := (must.all fun p => PySem.W.codeHdIn K (He.cT K p).1 (He.cT K p).2) && (((codT K).all fun p => match g p.2 with | some o => He.emptyTab o | none => false) && dupB ((TbK K).map (·.1)))
abbrev AlT : Type := He.AlD × Bool
abbrev frY (n : Nat) (g : Addr → Option Obj) : PySem.W.Frag := He.frT g (sysModules :: He.asD g n)
def obsYT (n : Nat) (chk : PySem.W.Frag → Bool) (fn : List He.DefD) (must : List He.Defn) (g : Addr → Option Obj) : AlT := (obsX chk fn (frY n g), tabsEB must g (frY n g))
theorem tab_ofB {n : Nat} {must : List He.Defn} {h : Heap} (e : tabsEB must h.get? (frY n h.get?) = true) : TabL must (frY n h.get?) h := by
  obtain ⟨e0, e⟩ := Bool.and_eq_true_iff.mp e
  obtain ⟨e1, e2⟩ := Bool.and_eq_true_iff.mp e
  have key : ∀ p ∈ codT (frY n h.get?), ∃ o, h.get? p.2 = some o ∧ He.emptyTab o = true := fun p hp => by
    have z : (match h.get? p.2 with | some o => He.emptyTab o | none => false) = true := List.all_eq_true.mp e1 p hp
    cases q : h.get? p.2 with
    | none => rw [q] at z; cases z
    | some o => rw [q] at z; exact ⟨o, rfl, z⟩
  refine ⟨fun p hp => List.all_eq_true.mp e0 p hp, fun p hp => ?_, fun p hp => ?_, fun P q q' => dupB_ok e2 P q q'⟩
  · obtain ⟨o, q, z⟩ := key p hp
    exact He.frT_none q z
  · obtain ⟨o, q, z⟩ := key p hp
    rw [q, He.emptyTab_eq z]
def hookYT (n : Nat) (chk : PySem.W.Frag → Bool) (fn : List He.DefD) (must : List He.Defn) : PySem.W.Hook where
  α := AlT
  obs := fun s => obsYT n chk fn must s.heap.get?
  val := fun _ => (He.valD fn, true)
  says := fun _ h => ∃ K : PySem.W.Frag, K.In h ∧ SaysX chk fn K ∧ TabL must K h
  of := fun _ _ e => ⟨_, He.frT_in, congrArg (fun z : AlT => z.1) e, tab_ofB (congrArg (fun z : AlT => z.2) e)⟩
  keeps := fun _ _ _ ⟨K, hK, c, t⟩ k => ⟨K, PySem.W.Frag.In.keeps hK k, c, ⟨t.hd, t.out, fun p hp => k _ _ (t.emp p hp), t.u⟩⟩
theorem obsYT_eq {n : Nat} {chk : PySem.W.Frag → Bool} {fn : List He.DefD} {must : List He.Defn} {g : Addr → Option Obj} {s : Shared} (h : ∀ a, g a = s.heap.get? a) : obsYT n chk fn must g = (hookYT n chk fn must).obs s := by
  have e : g = s.heap.get? := funext h
  subst e
  rfl
theorem law_callGT {P : Program} {w : World} {K : PySem.W.Frag} {mg mb : Str → Option Value} {k : Nat} {fa a : Addr} {T : List (Addr × Addr)} {fd : FuncData} {x : Str} {sp : Sp} {s1 : Shared} {vs : List Value} {ns : List Int}
    (inK : K.In s1.heap) (nsG : s1.heap.Ns mainGlobals mg) (nsB : s1.heap.Ns builtinsNs mb) (eqB : ∀ x : Str, x ≠ "__name__" → mb x = bootBuiltins x) (noL : s1.heap.NoLimit) (noG : s1.gens = #[])
    (tE : ∀ p ∈ T, s1.heap.get? p.2 = some { cls := .none, data := .fields #[] }) (tK : ∀ p ∈ T, K.lookup p.2 = none) (tC : ∀ p ∈ T, PySem.W.CodeHd s1.heap p.1 p.2)
    (hm : ∃ (bm : Addr) (ob : Obj), mg "__builtins__" = some (.ref bm) ∧ bm ≠ builtinsNs ∧ s1.heap.get? bm = some ob ∧ ob.cls = .type "module" ∧ ob.dict = some builtinsNs ∧ ob.data = .plain)
    (ha : s1.heap.get? a = some { cls := .type "list", data := .seq vs.toArray }) (hi : IntsAre vs ns) (hl : ns.length ≤ sizeLine) (rm : Room k callerA)
    (F : ∀ base : Heap, K.In base → base.Ns mainGlobals mg → (∀ p ∈ T, LamX.TabB base mg p.1 p.2) → FnG P w K mg base k fa fd [x] sp) (bind1 : ∀ (s : Shared) (u : Value), BindsTo s fd ⟨[u], []⟩ [(x, u)])
    (want : ∀ H : Hp, (∀ p ∈ T, H p.2 = some (.tbl #[])) → SqL K H a (ns.map V.int) → sp [.ref a] H (fun v _ => v = .bl true) fun _ _ _ => False) :
    codeAny (model P w) callerA (.call (.ref fa) ⟨[.ref a], []⟩) (fun r s' => r = .ok (.ret (.bool true)) ∧ OldK s1.heap s'.heap ∧ s'.os = s1.os ∧ AllBare s'.gens) s1 := by
  have rel := vals_ints hi
  have eqn := hi.length
  have un_ : ∀ {b : Addr}, b ∈ T.map (·.2) → ∃ p ∈ T, p.2 = b := fun h => List.mem_map.mp h
  have tE' : ∀ {b : Addr}, b ∈ T.map (·.2) → s1.heap.get? b = some { cls := .none, data := .fields #[] } := fun h => by
    obtain ⟨p, hp, rfl⟩ := un_ h
    exact tE p hp
  have nta : ∀ {b : Addr}, b ∈ T.map (·.2) → b ≠ a := fun h z => by
    have e := tE' h
    rw [z, ha] at e
    cases (show Data.seq vs.toArray _ = Data.fields #[] from congrArg Obj.data (Option.some.inj e))
  have goal : ∀ H : Hp, (∀ p ∈ T, H p.2 = some (.tbl #[])) → (∀ b, H b = none ∨ b ∈ T.map (·.2) ∨ ∃ o xs, H b = some (.frz o (.lst xs))) → SqL K H a (ns.map V.int) → HOk P w H s1.heap → (∀ b, H b ≠ none → b = a ∨ b ∈ T.map (·.2)) → (H a ≠ none → K.lookup a = none) →
      codeAny (model P w) callerA (.call (.ref fa) ⟨[.ref a], []⟩) (fun r s' => r = .ok (.ret (.bool true)) ∧ OldK s1.heap s'.heap ∧ s'.os = s1.os ∧ AllBare s'.gens) s1 := by
    intro H hT only seq hok onlyA noK
    have free : ∀ {b : Addr}, b ≠ a → b ∉ T.map (·.2) → H b = none := fun {b} h1 h2 => by
      cases q : H b with
      | none => rfl
      | some u => exact ((onlyA b (by rw [q]; exact Option.some_ne_none u)).elim h1 h2).elim
    have freeO : ∀ {b : Addr} {o : Obj}, s1.heap.get? b = some o → (∀ us n, o.data ≠ .seq us n) → o.data ≠ .fields #[] → H b = none := fun {b o} e d1 d2 => by
      refine free (fun z => ?_) fun z => ?_
      · rw [z, ha] at e
        cases e
        exact d1 _ _ rfl
      · rw [tE' z] at e
        cases e
        exact d2 rfl
    have dictFree : ∀ {b : Addr} {o : Obj} {es : Array DictEntry} {ep : Nat}, s1.heap.get? b = some o → o.data = .dict es ep → H b = none :=
      fun e d => freeO e (fun us n z => by rw [d] at z; cases z) fun z => by rw [d] at z; cases z
    have nsUp : ∀ {b : Addr} {m : Str → Option Value}, s1.heap.Ns b m → (hidT s1.heap H).Ns b m := by
      rintro b m ⟨o, es, ep, e, d, r⟩
      exact ⟨o, es, ep, hidT_get e (dictFree e d), d, r⟩
    have inB : K.In (hidT s1.heap H) := fun b o e => hidT_get (inK b o e) (by
      cases q : H b with
      | none => rfl
      | some u =>
        rcases onlyA b (by rw [q]; exact Option.some_ne_none u) with ba | bt
        · rw [ba] at e q
          rw [noK (by rw [q]; exact Option.some_ne_none u)] at e
          cases e
        · obtain ⟨p, hp, rfl⟩ := un_ bt
          rw [tK p hp] at e
          cases e)
    have md : Mod K mg (hidT s1.heap H) := ⟨inB, nsUp nsG, ⟨mb, nsUp nsB, eqB⟩, by obtain ⟨mc, h1, h2⟩ := noL; exact ⟨mc, nsUp h1, h2⟩⟩
    have TB : ∀ p ∈ T, LamX.TabB (hidT s1.heap H) mg p.1 p.2 := fun p hp => by
      refine ⟨?_, ?_, fun z => ?_⟩
      · obtain ⟨o, us, f1, f2, f3, f4, f5, f6, f7, e1, e2, e3, e4, r⟩ := tC p hp
        have d2 : o.data ≠ .fields #[] := fun z => by
          rw [e3] at z
          cases z
          cases e4
        exact ⟨o, us, f1, f2, f3, f4, f5, f6, f7, hidT_get e1 (freeO e1 (fun _ _ z => by rw [e3] at z; cases z) d2), e2, e3, e4, r⟩
      · obtain ⟨bm, ob, b1, b2, b3, b4, b5, b6⟩ := hm
        refine ⟨bm, ob, b1, b2, fun z => ?_, fun z => ?_, hidT_get b3 (freeO b3 (fun _ _ z => by rw [b6] at z; cases z) fun z => by rw [b6] at z; cases z), b4, b5, b6⟩
        · obtain ⟨o, es, ep, e, d, _⟩ := nsG
          rw [z, e] at b3
          cases b3
          rw [d] at b6
          cases b6
        · rw [z, tE p hp] at b3
          cases b3
          cases b6
      · obtain ⟨o, es, ep, e, d, _⟩ := nsG
        rw [z, tE p hp] at e
        cases e
        cases d
    have en : Env0 P w K mg (hidT s1.heap H) callerA [] s1 H :=
      ⟨rfl, md, fun b o e => of_hidT e, Nat.le_of_eq (hidT_size _ _), trivial, fun b hb => (List.not_mem_nil (show b ∈ ([] : List Addr) from hb)).elim, hok, .of_eq noG⟩
    have z := (F _ inB (nsUp nsG) TB).run callerA [] s1 H ⟨[.ref a], []⟩ [.ref a] [.ref a] _ _ rfl rm en (bind1 s1 (.ref a)) (.cons rfl .nil) (want H hT seq)
    refine codeAny_mono z fun res s' h => ?_
    rcases res with er | fl
    · exact False.elim h
    · cases fl with
      | ret u =>
        obtain ⟨v, H2, os, bare, un, hok2, rv, q⟩ := h
        cases (show v = .bl true from q)
        cases (show u = Value.bool true from rv)
        have stays : ∀ b o, b ∉ T.map (·.2) → s1.heap.get? b = some o → s'.heap.get? b = some o := fun b o nb e => by
          rcases only b with z | z | ⟨ob, xs, z⟩
          · exact un.keep b o e z (fun y => List.not_mem_nil (show b ∈ ([] : List Addr) from y)) List.not_mem_nil
          · exact absurd z nb
          · have e1 := (hok b _ z).1
            rw [e] at e1
            cases e1
            exact (hok2 b _ (un.frzs b _ _ z)).1
        have grown : ∀ p ∈ T, ∃ more : Array Value, s'.heap.get? p.2 = some { cls := .none, data := .fields more } := fun p hp => by
          obtain ⟨more, hm2⟩ := un.tbls p.2 #[] (hT p hp)
          have at2 : s'.heap.get? p.2 = some { cls := .none, data := .fields (#[] ++ more) } := hok2 p.2 _ hm2
          rw [Array.empty_append] at at2
          exact ⟨more, at2⟩
        refine ⟨rfl, ⟨fun b o e => ?_, fun b o e => ?_⟩, os, bare⟩
        · by_cases hb : b ∈ T.map (·.2)
          · obtain ⟨p, hp, rfl⟩ := un_ hb
            obtain ⟨more, at2⟩ := grown p hp
            rw [tE p hp] at e
            cases e
            exact .inr (.inl ⟨((tC p hp).tab (tE p hp)).isCodeTable, rfl, #[], more, rfl, by rw [Array.empty_append]; exact at2⟩)
          · exact .inl (stays b o hb e)
        · by_cases hb : b ∈ T.map (·.2)
          · obtain ⟨p, hp, rfl⟩ := un_ hb
            obtain ⟨more, at2⟩ := grown p hp
            exact ⟨_, at2⟩
          · exact ⟨o, stays b o hb e⟩
      | next => exact h.elim
      | brk => exact h.elim
      | cont => exact h.elim
  let H0 : Hp := fun b => if b ∈ T.map (·.2) then some (.tbl #[]) else none
  have h0t : ∀ {b : Addr}, b ∈ T.map (·.2) → H0 b = some (.tbl #[]) := fun h => if_pos h
  have h0n : ∀ {b : Addr}, b ∉ T.map (·.2) → H0 b = none := fun h => if_neg h
  have inT : ∀ p ∈ T, p.2 ∈ T.map (·.2) := fun p hp => List.mem_map.mpr ⟨p, hp, rfl⟩
  cases hk : K.lookup a with
  | some o =>
    have e := inK a o hk
    rw [ha] at e
    cases e
    refine goal H0 (fun p hp => h0t (inT p hp)) (fun b => ?_) (.inr ⟨_, vs.toArray, _, hk, rfl, rfl, rfl, by rw [List.size_toArray, eqn]; exact hl, by simpa using rel⟩) (fun b u z => ?_) (fun b z => ?_) (fun z => absurd (h0n fun h => nta h rfl) z)
    · by_cases hb : b ∈ T.map (·.2)
      · exact .inr (.inl hb)
      · exact .inl (h0n hb)
    · by_cases hb : b ∈ T.map (·.2)
      · rw [h0t hb] at z
        cases z
        exact tE' hb
      · rw [h0n hb] at z; cases z
    · by_cases hb : b ∈ T.map (·.2)
      · exact .inr hb
      · exact absurd (h0n hb) z
  | none =>
    let S : HO := .frz { cls := .type "list", data := .seq vs.toArray } (.lst (ns.map V.int))
    have at1 : upd H0 a S a = some S := upd_same
    have atT : ∀ {b : Addr}, b ∈ T.map (·.2) → upd H0 a S b = some (.tbl #[]) := fun h => by rw [upd_ne (nta h)]; exact h0t h
    have at2 : ∀ {b : Addr}, b ≠ a → b ∉ T.map (·.2) → upd H0 a S b = none := fun h1 h2 => by rw [upd_ne h1]; exact h0n h2
    refine goal (upd H0 a S) (fun p hp => atT (inT p hp)) (fun b => ?_) (.inl (.inr ⟨_, at1⟩)) (fun b u z => ?_) (fun b z => ?_) (fun _ => hk)
    · by_cases hb : b = a
      · exact .inr (.inr ⟨_, _, by rw [hb]; exact at1⟩)
      · by_cases hb2 : b ∈ T.map (·.2)
        · exact .inr (.inl hb2)
        · exact .inl (at2 hb hb2)
    · by_cases hb : b = a
      · subst hb
        cases at1.symm.trans z
        exact ⟨ha, by rw [List.length_map]; exact hl, vs, _, rel, ha⟩
      · by_cases hb2 : b ∈ T.map (·.2)
        · cases (atT hb2).symm.trans z
          exact tE' hb2
        · cases (at2 hb hb2).symm.trans z
    · by_cases hb : b = a
      · exact .inl hb
      · by_cases hb2 : b ∈ T.map (·.2)
        · exact .inr hb2
        · exact absurd (at2 hb hb2) z
theorem walk_ofGT {must : List He.Defn} {l : PySem.W.OpenLaw} {n k : Nat} {q : Program} {loose : List Str} {XP : (Str → Option Value) → Heap → Prop} {YP : World → Heap → Prop} {d : DefRec} {x : Str}
    (hn : l.most = some n) (hn2 : n ≤ 63) (hdf : d.params.defaults = []) (rm : Room k callerA)
    (F : ∀ (w : World) (mg : Str → Option Value) (fa : Addr) (h : Heap), YP w h → h.Ns mainGlobals mg → mg d.name = some (.ref fa) →
      ∃ (K : PySem.W.Frag) (fd : FuncData), K.In h ∧ TabL must K h ∧ (∀ (s : Shared) (u : Value), BindsTo s fd ⟨[u], []⟩ [(x, u)]) ∧
        ∀ base : Heap, K.In base → base.Ns mainGlobals mg → (∀ p ∈ codT K, LamX.TabB base mg p.1 p.2) → FnG l.prog w K mg base k fa fd [x] (spLaw K)) :
    PySem.W.WalkO q loose XP YP l.row.toRowW d [] (fun f vs => PySem.call f vs) :=
  Att.attach_call hn hdf fun w _ s1 mg _ fa _ _ _ _ a _ ns T Y _ _ _ hmg hobj hints hlen hg => by
    obtain ⟨K, fd, KX, tl, hb, hF⟩ := F w mg fa _ Y T.T.g hmg
    exact law_callGT KX T.T.g T.T.b T.T.builtins T.T.nolimit hg tl.emp tl.out (fun p hp => PySem.W.codeHd_of_K KX (codT_hd hp)) T.T.bmain hobj hints (Nat.le_trans hlen (Nat.le_trans hn2 (by decide))) rm hF hb
      (fun H hT hS => ⟨a, ns, rfl, hS, Nat.le_trans hlen hn2, tl.u, fun P q h => by
        obtain ⟨c, hc⟩ := codT_tb h
        exact hT _ hc, fun _ => rfl⟩)
end DL
set_option Elab.async false
set_option linter.all false
set_option maxRecDepth 100000
set_option maxHeartbeats 4000000
namespace DL
open PySem PySem.Spec PyProof.Rows L2
def tyNames : List String := ["NoneType", "bool", "int", "str", "list", "tuple", "dict"]
structure NoSub (K : PySem.W.Frag) (C : Addr) : Prop where
  no : ∀ n ∈ tyNames, PySem.W.kitOne K (.type n) (.ref C) = some false ∧ PySem.W.subIn K (.type n) (.ref C) = some false
def noSubB (K : PySem.W.Frag) (C : Addr) : Bool := tyNames.all fun n => (PySem.W.kitOne K (.type n) (.ref C) == some false) && (PySem.W.subIn K (.type n) (.ref C) == some false)
theorem noSubB_ok {K : PySem.W.Frag} {C : Addr} (h : noSubB K C = true) : NoSub K C := ⟨fun n hn => by
  have z := List.all_eq_true.mp h n hn
  rw [Bool.and_eq_true] at z
  exact ⟨beq_iff_eq.mp z.1, beq_iff_eq.mp z.2⟩⟩
theorem tyName_in {d : D} (h : d.isIns = false) : tyName d ∈ tyNames := by
  cases d <;> first | (simp [tyName, tyNames]; done) | cases h
section
variable {K : PySem.W.Frag} {B : Bg K} {H0 G0 H : Hp} {σ : L2.St} {δ : List Sl} {G : Hp} {C : Addr}
theorem tyC_of (ic : IsC K C) (ns : NoSub K C) (R : Rel K B H0 G0 H σ δ G) {v : V} {d : D} (h : Dd K G v d) (hi : InsOf C d) :
    ∃ t, TyX K H v t ∧ PySem.W.kitOne K t (.ref C) = some d.isIns ∧ PySem.W.notFirst K C t = true := by
  rcases hi with hi | ⟨n, ds, rfl⟩
  · obtain ⟨h1, h2⟩ := ns.no _ (tyName_in hi)
    refine ⟨_, tyX_of R h hi, by rw [h1, hi], ?_⟩
    unfold PySem.W.notFirst
    rw [h2]
    simp
  · obtain ⟨a, dx, fs, rfl, ha⟩ := ins_at R h
    refine ⟨.ref C, .base (.ins ha ic.cl ic.ha ic.hn ic.htk ic.hm), by simp [PySem.W.kitOne, D.isIns], ?_⟩
    unfold PySem.W.notFirst
    simp
end
section
variable {X : Cx} {e : Expr} {ta : TD} {p pos p2 : Pos} {C : Addr}
def tdIsOX (C : Addr) (ta : TD) : TD := fun δ Q => ta δ fun r δ' => match fz r with
  | some d => InsOf C d ∧ Q (.dt (.bl d.isIns)) δ'
  | none => False
theorem pd_isOX {x : Str} (ic : IsC X.K C) (ns : NoSub X.K C) (hg : Gl X "isinstance") (hm : X.mg "isinstance" = none) (hgx : Gl X x) (hmx : X.mg x = some (.ref C)) (h : PD X e ta) (hdx : (x == ("__debug__" : Str)) = false := by decide)
    (hs1 : starEach [.Name x p2] X.env = (false, eval (.Name x p2) X.env) :: starEach [] X.env := by rfl) (he : starEach [e, .Name x p2] X.env = (false, eval e X.env) :: starEach [.Name x p2] X.env := by rfl) (hpl : (backTo pos (starEach [.Name x p2] X.env)).any (·.1) = false := by rfl) :
    PD X (.Call (.Name "isinstance" p) [e, .Name x p2] [] pos) (tdIsOX C ta) := by
  have rule := pe_callB (X := X) (p := p) (pos := pos) call_isi hg hm boot_isi' (pa_cons h.pe (pa_cons (pe_glob (pos := p2) (v := .ref C) hgx hmx rfl hdx) pa_nil hs1) he) (by decide) (by decide) he hpl
  refine ⟨PE.weak rule fun σ H Q ⟨B, H0, G0, δ, G, R, q⟩ => ?_, fun δ Q Q' q w => h.mono _ _ _ q fun r δ' q => ?_⟩
  · refine ⟨B, H0, G0, δ, G, R, h.mono _ _ _ q fun r δ1 q2 v H1 G1 R1 s1 f1 ok => ?_⟩
    cases er : fz r with
    | none => rw [er] at q2; exact q2.elim
    | some d =>
      rw [er] at q2
      obtain ⟨hi, q3⟩ := q2
      obtain ⟨G2, R2, s2, hd⟩ := freeze R1 ok er
      obtain ⟨t, h1, h2, _⟩ := tyC_of ic ns R2 hd hi
      exact ⟨v, .ref C, t, .ref C, d.isIns, rfl, .own _, h1, h2, aft_here R2 (.bl _) (aftUp q3 (s1.trans s2) f1)⟩
  · cases er : fz r with
    | none => rw [er] at q; exact q
    | some d => rw [er] at q; exact ⟨q.1, w _ _ q.2⟩
def tdIsiX (C : Addr) (T : Ty) (ta : TD) : TD := fun δ Q => ta δ fun r δ' => match fz r with
  | some d => InsOf C d ∧ Q (.dt (.bl (isTy T d))) δ'
  | none => False
theorem pd_isiX (T : Ty) {x : Str} (ic : IsC X.K C) (nT : NoTy X.K C T) (hg : Gl X "isinstance") (hm : X.mg "isinstance" = none) (hgx : Gl X x) (hmx : X.mg x = none) (hvx : bootBuiltins x = some (.type T.name)) (h : PD X e ta) (hdx : (x == ("__debug__" : Str)) = false := by decide)
    (hx : x ≠ "__name__" := by decide) (hs1 : starEach [.Name x p2] X.env = (false, eval (.Name x p2) X.env) :: starEach [] X.env := by rfl) (he : starEach [e, .Name x p2] X.env = (false, eval e X.env) :: starEach [.Name x p2] X.env := by rfl) (hpl : (backTo pos (starEach [.Name x p2] X.env)).any (·.1) = false := by rfl) :
    PD X (.Call (.Name "isinstance" p) [e, .Name x p2] [] pos) (tdIsiX C T ta) := by
  have rule := pe_callB (X := X) (p := p) (pos := pos) call_isi hg hm boot_isi' (pa_cons h.pe (pa_cons (pe_bltn (pos := p2) (v := .ty T.name) hgx hmx hvx rfl hx hdx) pa_nil hs1) he) (by decide) (by decide) he hpl
  refine ⟨PE.weak rule fun σ H Q ⟨B, H0, G0, δ, G, R, q⟩ => ?_, fun δ Q Q' q w => h.mono _ _ _ q fun r δ' q => ?_⟩
  · refine ⟨B, H0, G0, δ, G, R, h.mono _ _ _ q fun r δ1 q2 v H1 G1 R1 s1 f1 ok => ?_⟩
    cases er : fz r with
    | none => rw [er] at q2; exact q2.elim
    | some d =>
      rw [er] at q2
      obtain ⟨hi, q3⟩ := q2
      obtain ⟨G2, R2, s2, hd⟩ := freeze R1 ok er
      obtain ⟨t, h1, h2, _⟩ := tyX_ofX ic nT nT R2 hd hi
      exact ⟨v, .ty T.name, t, _, isTy T d, rfl, .ty _, h1, h2, aft_here R2 (.bl _) (aftUp q3 (s1.trans s2) f1)⟩
  · cases er : fz r with
    | none => rw [er] at q; exact q
    | some d => rw [er] at q; exact ⟨q.1, w _ _ q.2⟩
end
section
variable {X : Cx} {k : Nat} {f : Addr} {fd : FuncData} {ps : List Str} {sp : Sp} {C : Addr}
def rEqA (K : PySem.W.Frag) (C : Addr) (neg : Bool) (sp : Sp) : R2 := fun x y H Q => ∃ a dx fs t, x = .ref a ∧ H a = some (.ins C dx fs) ∧ TyX K H y t ∧ PySem.W.notFirst K C t = true ∧ sp [x, y] H (fun z H' => ∃ c, z = .bl c ∧ Q (.bl (if neg = true then !c else c)) H') E0
theorem op_eqA (F : FnOk X.prog X.w X.K X.mg X.base CX0 k f fd ps sp) (hm : Meth X.K C "__eq__" f) (hb : Binds X.K fd ps []) (hr : Room k X.A) : OpR X (compareOp .Eq) (rEqA X.K C false sp) := by
  intro pins s σ H x y v u Q I rx ry h
  obtain ⟨a, dx, fs, t, rfl, ha, ty, nf, q⟩ := h
  cases (show v = Value.ref a from rx)
  obtain ⟨mA, J, _⟩ := ins_get I.hok ha
  obtain ⟨od, J, _⟩ := J.look
  obtain ⟨P, Z, hp, _⟩ := kit_of I ry ty
  obtain ⟨m, hF⟩ := I.fr
  show wpAny (model X.prog X.w) X.A (richCompare .Eq (.ref a) u) (EP X pins σ Q) X.xe s
  refine PySem.W.cmp_K (op := .Eq) (tb := t) hr.units0 hF I.ok.mod.kin J (Z.ty _ _ I.kIn hp) nf hm.at_ hm.fn ?_
  refine wpAny_mono (run_fnA (us := [.ref a, u]) (vs := [.ref a, y]) F hr I.env0 hb I (.cons rfl (.cons ry .nil)) q) (fun w s' z => ?_) fun _ _ x => x
  obtain ⟨z', H', I', rz, c, ec, qz⟩ := z
  subst ec
  cases (show w = Value.bool c from rz)
  exact ⟨.bl c, H', I', rfl, qz⟩
theorem op_neA (F : FnOk X.prog X.w X.K X.mg X.base CX0 k f fd ps sp) (hm : Meth X.K C "__eq__" f) (hb : Binds X.K fd ps []) (no : NeOwn X.K C) (hr : Room (k + 1) X.A) : OpR X (compareOp .NotEq) (rEqA X.K C true sp) := by
  intro pins s σ H x y v u Q I rx ry h
  obtain ⟨a, dx, fs, t, rfl, ha, ty, nf, q⟩ := h
  cases (show v = Value.ref a from rx)
  obtain ⟨mA, J, _⟩ := ins_get I.hok ha
  obtain ⟨od, J, _⟩ := J.look
  obtain ⟨P, Z, hp, _⟩ := kit_of I ry ty
  obtain ⟨m, hF⟩ := I.fr
  show wpAny (model X.prog X.w) X.A (richCompare .NotEq (.ref a) u) (EP X pins σ Q) X.xe s
  have hu := hr.un
  refine ne_KX (tb := t) (by omega) hF I.ok.mod.kin J (Z.ty _ _ I.kIn hp) nf hm.at_ hm.fn no.ne no.ob ?_
  refine wpAny_mono (run_fnA (us := [.ref a, u]) (vs := [.ref a, y]) F hr.in1 I.env0.in1 hb I (.cons rfl (.cons ry .nil)) q) (fun w s' z => ?_) fun _ _ x => x
  obtain ⟨z', H', I', rz, c, ec, qz⟩ := z
  subst ec
  cases (show w = Value.bool c from rz)
  exact ⟨c, rfl, .bl (!c), H', I', rfl, qz⟩
end
section
variable {X : Cx} {k : Nat} {C : Addr} {t : TF} {a b e : Expr} {pos : Pos} {ta tb te : TD}
def fEqA (C : Addr) (t : TF) (neg : Bool) : FD2 := fun d e δ Q => match d with
  | .ins C1 n1 d1 => C1 = C ∧ InsOf C e ∧ t [.dt (.ins C1 n1 d1), .dt e] (fun r => ∃ c, r = .dt (.bl c) ∧ Q (.dt (.bl (if neg = true then !c else c))) δ)
  | _ => False
theorem mono_fEqA {neg : Bool} (mt : MonoF t) : MonoF2 (fEqA C t neg) := fun d e δ Q Q' q w => by
  unfold fEqA at q ⊢
  split at q
  · exact ⟨q.1, q.2.1, mt _ _ _ q.2.2 fun r ⟨c, a, z⟩ => ⟨c, a, w _ _ z⟩⟩
  · exact q
theorem opS_eqA {K : PySem.W.Frag} {neg : Bool} (ic : IsC K C) (ns : NoSub K C) (mt : MonoF t) (ln : ∀ rs Q, t rs Q → rs.length = 2) : OpS K (rEqA K C neg (spD K 2 t)) (fEqA C t neg) := by
  intro B H0 G0 H σ δ G x y d e Q R hx hy q
  unfold fEqA at q
  split at q
  · obtain ⟨rfl, hi, q⟩ := q
    obtain ⟨a, dx, fs, rfl, ha⟩ := ins_at R hx
    obtain ⟨t', h1, _, h3⟩ := tyC_of ic ns R hy hi
    refine ⟨a, dx, fs, t', rfl, ha, h1, h3, sp_of R (vs := [.ref a, y]) (rs := [.dt _, .dt _]) ⟨hx, hy, trivial⟩ mt ln q fun r ⟨c, er, z⟩ v H' G' R' s' f' ok => ?_⟩
    subst er
    cases ok.1
    exact ⟨c, rfl, z _ _ _ R' s' f' (resOk_dt (.bl _))⟩
  · exact q.elim
theorem pd_eqA (ic : IsC X.K C) (ns : NoSub X.K C) (M : MthX X.prog X.w X.K X.mg X.base k C "__eq__" 2 t) (hr : Room k X.A) (ha : PD X a ta) (hb : PD X b tb) (hm : behindInMarks .Eq b = false := nomark _) : PD X (.Compare a [.Eq] [b] pos) (td2 (fEqA C t false) ta tb) := by
  obtain ⟨f, fd, ps, F, hc, hmt, hbb⟩ := M.ex
  exact pd_cmp (op_eqA F hmt hbb hr) (mono_fEqA M.mono) (opS_eqA ic ns M.mono M.len) ha hb hm
theorem pdt_eqA (ic : IsC X.K C) (ns : NoSub X.K C) (M : MthX X.prog X.w X.K X.mg X.base k C "__eq__" 2 t) (hr : Room k X.A) (ha : PD X a ta) (hb : PD X b tb) (hm : behindInMarks .Eq b = false := nomark _) : PDT X (.Compare a [.Eq] [b] pos) (tdBool (td2 (fEqA C t false) ta tb)) := by
  obtain ⟨f, fd, ps, F, hc, hmt, hbb⟩ := M.ex
  exact pdt_of (op_eqA F hmt hbb hr) (mono_fEqA M.mono) (opS_eqA ic ns M.mono M.len) ha hb hm
theorem pd_neA (ic : IsC X.K C) (ns : NoSub X.K C) (M : MthX X.prog X.w X.K X.mg X.base k C "__eq__" 2 t) (no : NeOwn X.K C) (hr : Room (k + 1) X.A) (ha : PD X a ta) (hb : PD X b tb) (hm : behindInMarks .NotEq b = false := nomark _) : PD X (.Compare a [.NotEq] [b] pos) (td2 (fEqA C t true) ta tb) := by
  obtain ⟨f, fd, ps, F, hc, hmt, hbb⟩ := M.ex
  exact pd_cmp (op_neA F hmt hbb no hr) (mono_fEqA M.mono) (opS_eqA ic ns M.mono M.len) ha hb hm
theorem pdt_neA (ic : IsC X.K C) (ns : NoSub X.K C) (M : MthX X.prog X.w X.K X.mg X.base k C "__eq__" 2 t) (no : NeOwn X.K C) (hr : Room (k + 1) X.A) (ha : PD X a ta) (hb : PD X b tb) (hm : behindInMarks .NotEq b = false := nomark _) : PDT X (.Compare a [.NotEq] [b] pos) (tdBool (td2 (fEqA C t true) ta tb)) := by
  obtain ⟨f, fd, ps, F, hc, hmt, hbb⟩ := M.ex
  exact pdt_of (op_neA F hmt hbb no hr) (mono_fEqA M.mono) (opS_eqA ic ns M.mono M.len) ha hb hm
end
mutual
def tupD : D → Bool
  | .tup xs => tupDA xs
  | .lst _ => false
  | .dK _ _ => false
  | .dT _ _ => false
  | .dL _ _ => false
  | .ins _ _ _ => false
  | .non => true
  | .bl _ => true
  | .int _ => true
  | .str _ => true
def tupDA : List D → Bool
  | [] => true
  | x :: xs => tupD x && tupDA xs
end
open Classical in
noncomputable def outG (σ : L2.St) (δ : List Sl) (G' : Hp) : Hp := fun a => if ∃ i, Own σ δ i a then none else G' a
section
variable {K : PySem.W.Frag} {B : Bg K} {H0 G0 H H' G G' : Hp} {σ : L2.St} {δ δ' : List Sl}
theorem outG_in {a : Addr} (h : ∃ i, Own σ δ i a) : outG σ δ G' a = none := if_pos h
theorem outG_out {a : Addr} (h : ¬ ∃ i, Own σ δ i a) : outG σ δ G' a = G' a := if_neg h
theorem outG_le {a : Addr} {o : HO} (h : outG σ δ G' a = some o) : G' a = some o := by
  by_cases z : ∃ i, Own σ δ i a
  · rw [outG_in z] at h; cases h
  · rw [outG_out z] at h; exact h
theorem own_kind (R : Rel K B H0 G0 H σ δ G) {i : Nat} {a : Addr} (oa : Own σ δ i a) : ∃ o, H a = some o ∧ NotB B a ∧ G a = none ∧ (∀ xs, o ≠ .tup xs) ∧ (∀ ob u, o ≠ .frz ob u) ∧ (∀ f, o ≠ .ext f) ∧ (∀ C dx fs, o = .ins C dx fs → ∃ x ns ds, δ[i]? = some (.oI x C ns ds) ∧ a = x) := by
  obtain ⟨ev, s, es, io⟩ := oa
  have nb := (R.own i a ⟨ev, s, es, io⟩).2.2
  have ga := (R.own i a ⟨ev, s, es, io⟩).2.1
  rcases R.sl i s es with q | ⟨v, ev2, ok⟩
  · cases s <;> first | exact Bool.noConfusion (show false = true from q) | exact Bool.noConfusion (show false = true from io)
  · obtain ⟨a2, ea, _, h⟩ := ok.own io
    rw [ev] at ev2; cases ev2
    cases ea
    cases s <;> first | exact h.elim | skip
    · obtain ⟨vs, h1, _⟩ := h; exact ⟨_, h1, nb, ga, fun _ z => (by cases z), fun _ _ z => (by cases z), fun _ z => (by cases z), fun _ _ _ z => (by cases z)⟩
    · obtain ⟨vs, _, h1, _⟩ := h; exact ⟨_, h1, nb, ga, fun _ z => (by cases z), fun _ _ z => (by cases z), fun _ z => (by cases z), fun _ _ _ z => (by cases z)⟩
    · obtain ⟨vs, _, h1, _⟩ := h; exact ⟨_, h1, nb, ga, fun _ z => (by cases z), fun _ _ z => (by cases z), fun _ z => (by cases z), fun _ _ _ z => (by cases z)⟩
    · obtain ⟨ex, dx, vs, _, h1, _⟩ := h; exact ⟨_, h1, nb, ga, fun _ z => (by cases z), fun _ _ z => (by cases z), fun _ z => (by cases z), fun _ _ _ z => (by cases z; exact ⟨_, _, _, es, ex⟩)⟩
    · obtain ⟨ex, vs, h1, _⟩ := h; exact ⟨_, h1, nb, ga, fun _ z => (by cases z), fun _ _ z => (by cases z), fun _ z => (by cases z), fun _ _ _ z => (by cases z)⟩
theorem Rel.outG (R : Rel K B H0 G0 H σ δ G) (R' : Rel K B H0 G0 H' σ δ' G') (sG : Same G G') (fr : Fra B H H') : Same G (outG σ δ G') ∧ Rel K B H0 G0 H' σ δ (outG σ δ G') := by
  have sm : Same G (DL.outG σ δ G') := fun a o e => by
    rw [outG_out fun ⟨i, oa⟩ => by rw [(R.own i a oa).2.1] at e; cases e]
    exact sG _ _ e
  have own0 : ∀ {i : Nat} {a : Addr}, Own σ δ i a → DL.outG σ δ G' a = none := fun {i a} oa => outG_in ⟨i, oa⟩
  refine ⟨sm, fun a o e => R'.sub _ _ (outG_le e), R.g0.trans sm, R'.ent, R.len, fun i s e => ?_, R.sep, fun i a oa => ⟨(R.own i a oa).1, own0 oa, (R.own i a oa).2.2⟩, fun b c e => ?_, fun a o e => R'.gn _ _ (outG_le e), R'.sz, R.hd.up sm fun a o e => ?_⟩
  · rcases R.sl i s e with z | ⟨v, ev, ok⟩
    · exact .inl z
    · refine .inr ⟨v, ev, ?_⟩
      cases io : s.isOwn with
      | false => cases s <;> first | exact ok | exact Dd.mono sm _ _ ok | exact xcp_mono sm ok | exact fn_mono sm ok | cases io
      | true =>
        obtain ⟨a, ea, ga, h⟩ := ok.own io
        have oa : Own σ δ i a := ⟨ea ▸ ev, s, e, io⟩
        have h2 := h.up (fun o q => fr a o q (R.own i a oa).2.2) sm
        have g2 := own0 oa
        cases s <;> first | exact ⟨a, ea, g2, h2⟩ | cases io
  · have h := R'.bag b c e
    have k := R.bag b c e
    have n2 : DL.outG σ δ G' b = none := none_of fun o z => by have y := outG_le z; rw [h.gn] at y; cases y
    cases c with
    | bag c =>
      obtain ⟨x, m, i, ns, h1, h2, h3, h4, h5, h6, h7, h8, h9⟩ := h
      obtain ⟨x', m', i', ns', k1, k2, k3, k4, k5, k6, k7, k8, k9⟩ := k
      exact ⟨x, m, i, ns', h1, n2, rdS sm k3, h4, k5, h6, h7, h8, k9⟩
    | cnt =>
      obtain ⟨n, h1, h2⟩ := h
      exact ⟨n, h1, n2⟩
    | tab q =>
      obtain ⟨⟨ps, h1, h2, h3⟩, _⟩ := h
      refine ⟨⟨ps, h1, h2, fun pos cv z => ?_⟩, n2⟩
      obtain ⟨c, e1, e2⟩ := h3 pos cv z
      refine ⟨c, e1, ?_⟩
      have no : ¬ ∃ i, Own σ δ i c := fun ⟨i, oa⟩ => by
        obtain ⟨o, ho, nb, _, _, _, nx, _⟩ := own_kind R oa
        have y := fr _ _ ho nb
        rw [R'.sub _ _ e2] at y
        cases y
        exact nx _ rfl
      rw [outG_out no]
      exact e2
  · have y := outG_le e
    rcases R'.gn _ _ y with z | z
    · exact .inl ⟨_, R.g0 _ _ z⟩
    · exact .inr z
mutual
theorem Dd.outG (R : Rel K B H0 G0 H σ δ G) (R' : Rel K B H0 G0 H' σ δ' G') (fr : Fra B H H') : ∀ (d : D) (v : V), tupD d = true → Dd K G' v d → Dd K (outG σ δ G') v d
  | .tup xs, v, h, hd => by
    cases hd with
    | @tup a vs _ h1 h2 =>
      refine .tup ?_ (DdA.outG R R' fr xs vs h h2)
      have no : ∀ o, G' a = some o → (∃ xs, o = .tup xs) ∨ (∃ ob u, o = .frz ob u) → ¬ ∃ i, Own σ δ i a := fun o e hk ⟨i, oa⟩ => by
        obtain ⟨o2, ho, nb, _, n1, n2, _, _⟩ := own_kind R oa
        have y := fr _ _ ho nb
        rw [R'.sub _ _ e] at y
        cases y
        rcases hk with ⟨xs, rfl⟩ | ⟨ob, u, rfl⟩
        · exact n1 _ rfl
        · exact n2 _ _ rfl
      rcases h1 with h1 | h1
      · exact .inl (by rw [outG_out (no _ h1 (.inl ⟨_, rfl⟩))]; exact h1)
      · exact .inr h1
  | .lst _, _, h, _ => by cases h
  | .dK _ _, _, h, _ => by cases h
  | .dT _ _, _, h, _ => by cases h
  | .dL _ _, _, h, _ => by cases h
  | .ins _ _ _, _, h, _ => by cases h
  | .non, _, _, h => by cases h; exact .non
  | .bl b, _, _, h => by cases h; exact .bl b
  | .int i, _, _, h => by cases h; exact .int i
  | .str x, _, _, h => by cases h; exact .str x
theorem DdA.outG (R : Rel K B H0 G0 H σ δ G) (R' : Rel K B H0 G0 H' σ δ' G') (fr : Fra B H H') : ∀ (ds : List D) (vs : List V), tupDA ds = true → DdA K G' vs ds → DdA K (outG σ δ G') vs ds
  | [], _, _, h => by cases h; exact .nil
  | d :: ds, _, h, hd => by
    cases hd with
    | cons h1 h2 =>
      have h' : (tupD d && tupDA ds) = true := h
      rw [Bool.and_eq_true] at h'
      exact .cons (Dd.outG R R' fr d _ h'.1 h1) (DdA.outG R R' fr ds _ h'.2 h2)
end
end
end DL
set_option Elab.async false
set_option linter.all false
set_option maxRecDepth 100000
set_option maxHeartbeats 4000000
namespace DL
open PySem PySem.Spec PyProof.Rows L2
end DL
set_option Elab.async false
set_option linter.all false
set_option maxRecDepth 100000
set_option maxHeartbeats 4000000
namespace DL
open PySem PySem.Spec PyProof.Rows L2
section
variable {P : Program} {w : World} {K : PySem.W.Frag} {mg : Str → Option Value} {base : Heap} {x qual : Str} {st : Stmt} {f : Addr} {fd : FuncData} {N ps : List Str} {k n : Nat} {t : TF}
structure DfnC (K : PySem.W.Frag) (mg : Str → Option Value) (x : Str) (st : Stmt) (ps : List Str) : Prop where
  ex : ∃ fd, Fun K x x st (He.fAd K (x, none)) fd ∧ mg x = some (.ref (He.fAd K (x, none))) ∧ Binds K fd ps []
theorem DfnC.d (D : DfnC K mg x st ps) : Dfn K mg x st ps := by
  obtain ⟨fd, F, h, b⟩ := D.ex
  exact ⟨_, fd, F, h, b⟩
theorem DfnC.of {h : Heap} (X : K.In h) (G : h.Ns mainGlobals mg) (cg : (He.Fa.glo x).ok K = true)
    (F : ∃ fd, FunD K (dfd x st).name (dfd x st).qual (dfd x st).params (dfd x st).body (dfd x st).scope ((dfd x st).dvs K) ((dfd x st).kws K) (He.fAd K (dfd x st).at_) fd)
    (hb : ∀ (kV doc pm : Value) (an : Option Addr) (cdv ct : Value) (us : List Value), us.length = ps.length → bindArgs (PySem.W.fnOf x x (defArgs st) (defBody st) (defScope st) .none kV doc pm an cdv ct) ⟨us, []⟩ = pure (ps.zip us)) : DfnC K mg x st ps := by
  obtain ⟨fd, F⟩ := F
  have F' : Fun K x x st (He.fAd K (x, none)) fd := fun_of F
  exact ⟨fd, F', He.glo_ok X G cg, F'.binds hb⟩
structure DfmC (K : PySem.W.Frag) (c m qual : Str) (st : Stmt) (ps : List Str) : Prop where
  ex : ∃ fd, Fun K m qual st (He.fAd K (c, some m)) fd ∧ Meth K (He.ga K c) m (He.fAd K (c, some m)) ∧ Binds K fd ps []
theorem DfmC.d {c m : Str} (D : DfmC K c m qual st ps) : Dfm K (He.ga K c) m qual st ps := by
  obtain ⟨fd, F, h, b⟩ := D.ex
  exact ⟨_, fd, F, h, b⟩
end
end DL
set_option Elab.async false
set_option linter.all false
set_option maxRecDepth 100000
set_option maxHeartbeats 4000000
namespace DL
open PySem PySem.Spec PyProof.Rows L2
end DL
set_option Elab.async false
set_option linter.all false
set_option maxRecDepth 100000
set_option maxHeartbeats 4000000
namespace DL
open PySem PySem.Spec PyProof.Rows L2
open LamX (TabB CodeO)
structure LamT (P : Program) (w : World) (K : PySem.W.Frag) (mg : Str → Option Value) (base : Heap) (k : Nat) (q : Str) (params : Arguments) (body : Expr) (scope : Scope) (n : Nat) (t : TF) : Prop where
  ex : ∃ N ps, FnScope N ps scope ∧ ps.length = n ∧ (∀ (pm ctv : Value) (c' : Addr) (us : List Value), us.length = n → bindArgs (PySem.W.kla_fn "<lambda>" q params body scope [] pm (.ref c') ctv) ⟨us, []⟩ = pure (ps.zip us)) ∧
    ∀ (f c' : Addr) (A : Around) (outer : List Env) (s : Shared) (H : Hp) (E : XK), Room k (A.deeper (envOfC q scope s.heap.objs.size f (.ref c'))) → ∃ td, PD (cxOf CX0 P w K mg base N q scope f (.ref c') A outer s H E) body td ∧ ∀ rs (Q : Sl → Prop), t rs Q → td (startD N rs) fun r _ => Q r
  mono : MonoF t
  len : ∀ rs Q, t rs Q → rs.length = n
theorem LamT.of {P : Program} {w : World} {K : PySem.W.Frag} {mg : Str → Option Value} {base : Heap} {k : Nat} {q : Str} {params : Arguments} {body : Expr} {scope : Scope} {n : Nat} {t : TF} {td : TD} {N ps : List Str} (S : FnScope N ps scope) (hn : ps.length = n)
    (hb : ∀ (pm ctv : Value) (c' : Addr) (us : List Value), us.length = n → bindArgs (PySem.W.kla_fn "<lambda>" q params body scope [] pm (.ref c') ctv) ⟨us, []⟩ = pure (ps.zip us))
    (hp : ∀ (f c' : Addr) (A : Around) (outer : List Env) (s : Shared) (H : Hp) (E : XK), Room k (A.deeper (envOfC q scope s.heap.objs.size f (.ref c'))) → PD (cxOf CX0 P w K mg base N q scope f (.ref c') A outer s H E) body td)
    (le : ∀ rs (Q : Sl → Prop), t rs Q → td (startD N rs) fun r _ => Q r) (mt : MonoF t) (ln : ∀ rs Q, t rs Q → rs.length = n) : LamT P w K mg base k q params body scope n t :=
  ⟨⟨N, ps, S, hn, hb, fun f c' A outer s H E hr => ⟨td, hp f c' A outer s H E hr, le⟩⟩, mt, ln⟩
structure MinK (kf : D → D) (t : TF) (ds : List D) : Prop where
  run : ∀ d ∈ ds, t [.dt d] (fun r => r = .dt (kf d))
  plain : ∀ d ∈ ds, plainD (kf d) = true
  al : ∀ x ∈ ds, ∀ y ∈ ds, PySem.W.alike (py (kf x)) (py (kf y)) = true
  nn : ∀ x ∈ ds, py (kf x) ≠ .none
  dp : ∀ d ∈ ds, (py (kf d)).depth ≤ 60
end DL
set_option Elab.async false
set_option linter.all false
set_option maxRecDepth 100000
set_option maxHeartbeats 4000000
namespace DL
open PySem PySem.Spec PyProof.Rows L2
abbrev TM2 := List Sl → List D → List D → (Sl → List D → List D → Prop) → Prop
def MonoM2 (t : TM2) : Prop := ∀ rs L M (Q Q' : Sl → List D → List D → Prop), t rs L M Q → (∀ r L' M', Q r L' M' → Q' r L' M') → t rs L M Q'
structure RetM2 (K : PySem.W.Frag) (B : Bg K) (H G H' G' : Hp) (a b : Addr) (v : V) (r : Sl) (L' M' : List D) : Prop where
  rk : RetOk K B (del (del H b) a) G H' G' v r
  la : ∃ xs, H' a = some (.lst xs) ∧ DdA K G' xs L'
  lb : ∃ xs, H' b = some (.lst xs) ∧ DdA K G' xs M'
  ga : G' a = none
  gb : G' b = none
  va : r.isOwn = true → v ≠ .ref a ∧ v ≠ .ref b
def spM2 (K : PySem.W.Frag) (n : Nat) (t : TM2) : Sp := fun vs H Q _ => ∃ ws a b B G rs L M, vs = ws ++ [.ref a, .ref b] ∧ ws.length = n ∧ a ≠ b ∧ Same G H ∧ (∀ b c, (b, c) ∈ B → BagOk H G b c) ∧ HSz H ∧ ArgsOk K B G ws rs ∧ (G a = none ∧ NotB B a ∧ ∃ xs, H a = some (.lst xs) ∧ DdA K G xs L) ∧ (G b = none ∧ NotB B b ∧ ∃ xs, H b = some (.lst xs) ∧ DdA K G xs M) ∧
  t rs L M (fun r L' M' => ∀ v H' G', RetM2 K B H G H' G' a b v r L' M' → Q v H')
theorem start_snoc {N : List Str} {ws : List V} {v : V} (h : ws.length < N.length) : (start N ws).set ws.length (some v) = start N (ws ++ [v]) := by
  unfold L2.start
  have e : N.length - ws.length = (N.length - (ws ++ [v]).length) + 1 := by rw [List.length_append, List.length_singleton]; omega
  rw [List.map_append, e, List.replicate_succ, List.set_append_right _ _ (by rw [List.length_map]; exact Nat.le_refl _), List.length_map, Nat.sub_self, List.append_assoc]
  rfl
theorem startD_snoc {N : List Str} {rs : List Sl} {s : Sl} (h : rs.length < N.length) : (startD N rs).set rs.length s = startD N (rs ++ [s]) := by
  unfold startD
  have e : N.length - rs.length = (N.length - (rs ++ [s]).length) + 1 := by rw [List.length_append, List.length_singleton]; omega
  rw [e, List.replicate_succ, List.set_append_right _ _ (Nat.le_refl _), Nat.sub_self, List.append_assoc]
  rfl
section
variable {K : PySem.W.Frag} {B : Bg K} {H0 G0 H H' G G' : Hp} {σ : L2.St} {δ : List Sl}
theorem rel_startM2 {N : List Str} {ws : List V} {rs : List Sl} {x y : Addr} {xs ys : List V} {L M : List D} (xy : x ≠ y) (hx : H x = some (.lst xs)) (hA : DdA K G xs L) (gx : G x = none) (nx : NotB B x) (hy : H y = some (.lst ys)) (hB : DdA K G ys M) (gy : G y = none) (ny : NotB B y) (sub : Same G H) (bag : ∀ b c, (b, c) ∈ B → BagOk H G b c) (sz : HSz H) (oks : ArgsOk K B G ws rs) (hn : ws.length + 1 < N.length) :
    Rel K B (DL.del (DL.del H y) x) G H (start N (ws ++ [.ref x, .ref y])) (startD N (rs ++ [.oL x L, .oL y M])) G := by
  have el := oks.len
  have subD : Same G (DL.del (DL.del H y) x) := fun b o e => by rw [del_ne (ne_of_none e gx), del_ne (ne_of_none e gy)]; exact sub _ _ e
  have R1 : Rel K B (DL.del (DL.del H y) x) G (DL.del (DL.del H y) x) (start N ws) (startD N rs) G := rel_start subD (fun b c e => (bag b c e).up (by rw [del_ne (show b ≠ x from fun z => nx c (by rw [← z]; exact e)), del_ne (show b ≠ y from fun z => ny c (by rw [← z]; exact e))]) (Same.refl _) (bag b c e).gn) (fun b o e => sz b o (del_some (del_some e).2).2) oks
  obtain ⟨h1, h2, h3⟩ := R1.newOwn (p := x) del_same
  have hx' : DL.del H y x = some (.lst xs) := by rw [del_ne xy]; exact hx
  have R2 := R1.undel hx' (sz _ _ hx)
  have R3 := R2.assign (v := .ref x) (r := .oL x L) ⟨⟨x, rfl, gx, rfl, xs, hx', hA⟩, (fun z => nomatch z), fun _ b e => by cases e; exact ⟨h1, h2, h3⟩⟩ ws.length
  rw [start_snoc (by omega), el, startD_snoc (by omega)] at R3
  obtain ⟨k1, k2, k3⟩ := R3.newOwn (p := y) del_same
  have R4 := R3.undel hy (sz _ _ hy)
  have R5 := R4.assign (v := .ref y) (r := .oL y M) ⟨⟨y, rfl, gy, rfl, ys, hy, hB⟩, (fun z => nomatch z), fun _ b e => by cases e; exact ⟨k1, k2, k3⟩⟩ (ws ++ [V.ref x]).length
  rw [start_snoc (by rw [List.length_append]; exact hn)] at R5
  have e2 : (ws ++ [V.ref x]).length = (rs ++ [Sl.oL x L]).length := by rw [List.length_append, List.length_append, el]; rfl
  rw [e2, startD_snoc (by rw [List.length_append, ← el]; exact hn), List.append_assoc, List.append_assoc] at R5
  exact R5
end
structure FnM2 (P : Program) (w : World) (K : PySem.W.Frag) (mg : Str → Option Value) (base : Heap) (k : Nat) (x : Str) (n : Nat) (t : TM2) : Prop where
  ex : ∃ f fd ps, FnOk P w K mg base CX0 k f fd ps (spM2 K n t) ∧ mg x = some (.ref f) ∧ PySem.W.keepIn K (.ref f) = true ∧ Binds K fd ps []
  mono : MonoM2 t
  len : ∀ rs L M Q, t rs L M Q → rs.length = n
def endM2 (Q : Sl → List D → List D → Prop) (x y : Addr) (n : Nat) (r : Sl) (δ : List Sl) : Prop := ∃ L M, δ[n]? = some (.oL x L) ∧ δ[n + 1]? = some (.oL y M) ∧ Q r L M
section
variable {P : Program} {w : World} {K : PySem.W.Frag} {mg : Str → Option Value} {base : Heap} {x : Str} {st : Stmt} {N ps : List Str} {k n : Nat} {t : TM2}
theorem FnM2.of (D0 : Dfn K mg x st ps) (S : FnScope N ps (defScope st)) (hn : ps.length = n + 2) (hN : n + 1 < N.length) (mt : MonoM2 t) (ln : ∀ rs L M Q, t rs L M Q → rs.length = n)
    (hb : ∀ (f : Addr) (cdv : Value) (A : Around) (outer : List Env) (s : Shared) (H : Hp) (E : XK), Room k (A.deeper (envOfC x (defScope st) s.heap.objs.size f cdv)) →
      ∃ tS, PDSs (cxOf CX0 P w K mg base N x (defScope st) f cdv A outer s H E).nox (defBody st) tS ∧ ∀ a b rs L M (Q : Sl → List D → List D → Prop), t rs L M Q → tS { nx := fun δ => endM2 Q a b n (.dt .non) δ, rt := endM2 Q a b n } (startD N (rs ++ [.oL a L, .oL b M]))) :
    FnM2 P w K mg base (k + 1) x n t := by
  obtain ⟨f, fd, F, hm, hbd⟩ := D0.ex
  refine ⟨⟨f, fd, ps, ?_, hm, F.kp, hbd⟩, mt, ln⟩
  refine F.ok S (fun vs H Q E h => by obtain ⟨ws, a, b, B, G, rs, L, M, rfl, hl, _⟩ := h; rw [List.length_append, hl]; exact hn.symm) fun cdv A outer s H vs Q E hr want => ?_
  obtain ⟨tS, h, le⟩ := hb f cdv A outer s H E hr
  refine ⟨_, h.ps, ?_⟩
  obtain ⟨ws, a, b, B, G, rs, L, M, rfl, hl, hab, sub, bag, sz, oks, ⟨ga, nb, xs, hx, hA⟩, ⟨gb, nb', ys, hy, hB⟩, q⟩ := want
  refine ⟨B, _, G, _, G, rel_startM2 hab hx hA ga nb hy hB gb nb' sub bag sz oks (by omega), h.mono _ _ _ ?_ (le a b rs L M _ q)⟩
  have fin : ∀ {v : V} {σ' : L2.St} {H' G' : Hp} {δ : List Sl} {r : Sl}, endM2 (fun r L' M' => ∀ v H' G', RetM2 K B H G H' G' a b v r L' M' → Q v H') a b n r δ → Rel K B (DL.del (DL.del H b) a) G H' σ' δ G' → ResOk K B (DL.del (DL.del H b) a) H' σ' δ G' v r → Q v H' := fun {v σ' H' G' δ r} ⟨L', M', e, e2, q⟩ R' ok => by
    obtain ⟨xs', ev, oa, hx', hA'⟩ := R'.oL e
    obtain ⟨ys', ev2, ob, hy', hB'⟩ := R'.oL e2
    refine q v H' G' ⟨⟨R'.g0, R'.sub, R'.bag, fun b o e n => R'.ent b o e n, R'.sz, R'.gn, ok.1, ok.2.1, fun io b e => (ok.2.2 io b e).1⟩, ⟨xs', hx', hA'⟩, ⟨ys', hy', hB'⟩, (R'.own _ _ oa).2.1, (R'.own _ _ ob).2.1, fun io => ⟨fun e => ?_, fun e => ?_⟩⟩
    · exact (ok.2.2 io a e).2.2 _ oa
    · exact (ok.2.2 io b e).2.2 _ ob
  exact ⟨fun δ q σ' H' G' R' => fin q R' (resOk_dt .non), fun r δ q v σ' H' G' R' ok => fin q R' ok, fun _ q => q.elim, fun _ q => q.elim, fun _ _ _ _ q => q.elim⟩
end
end DL
set_option Elab.async false
set_option linter.all false
set_option maxRecDepth 100000
set_option maxHeartbeats 4000000
namespace DL
open PySem PySem.Spec PyProof.Rows L2
end DL
set_option Elab.async false
set_option linter.all false
set_option maxRecDepth 100000
set_option maxHeartbeats 4000000
namespace DL
open PySem PySem.Spec PyProof.Rows L2
end DL
set_option Elab.async false
set_option linter.all false
set_option maxRecDepth 100000
set_option maxHeartbeats 4000000
namespace PySem.SeqAt
open PySem PySem.Spec
section
variable {prog : Program} {w : World}
theorem tuple_ne2X (l b : Addr) (y0 y1 x0 x1 : Value) (n n2 : Nat) (dd dd2 : Option Addr) (sl sl2 : Array (Option Value)) :
    MeetsIn prog w (Builtin.«tuple.__ne__» ⟨[.ref l, .ref b], []⟩)
      (fun A R s => s.heap.get? l = some { cls := .type "tuple", dict := dd, data := .seq #[y0, y1] n, slots := sl } ∧ s.heap.get? b = some { cls := .type "tuple", dict := dd2, data := .seq #[x0, x1] n2, slots := sl2 } ∧
        EqP prog w A.in1 s y0 x0 true ∧ wpAny (model prog w) A.in1 (eqBool y1 x1) (fun c s' => R (.ok (.ret (.bool (!c)))) s') (fun e s' => R (.error e) s') s) := by
    intro A R s h
    obtain ⟨hp, g, d, tk, os⟩ := s; obtain ⟨hl, hb, h0, h1⟩ := h
    have f2 := AutoSeq1.sub_tuple_tuple
    wp_walk using wpAny_loadPart' hl, wpAny_loadPart' hb, wpAny_forIn_list _ (fun rest b s' => (b.1 = none ∧ s' = ⟨hp, g, d, tk, os⟩ ∧ rest = [(y0, x0), (y1, x1)]) ∨ (b.1 = none ∧ s' = ⟨hp, g, d, tk, os⟩ ∧ rest = [(y1, x1)]) ∨ (b.1 = none ∧ rest = [] ∧ R (.ok (.ret (.bool false))) s')) _
    case turn =>
      rintro ⟨y, x⟩ rest b s' (⟨hb', rfl, hz⟩ | ⟨hb', rfl, hz⟩ | ⟨_, hz, _⟩)
      · cases hz
        refine wpAny_bind (h0 _ _ ?_)
        wp_walk
        exact .inr (.inl ⟨rfl, rfl, rfl⟩)
      · cases hz
        refine wpAny_bind (wpAny_mono h1 (fun c s' hR => ?_) fun _ _ x => x)
        cases c with
        | true =>
          wp_walk
          exact .inr (.inr ⟨rfl, rfl, hR⟩)
        | false =>
          wp_walk
          exact hR
      · cases hz
    case fin =>
      rintro ⟨b1, b2⟩ s' (⟨_, _, hz⟩ | ⟨_, _, hz⟩ | ⟨hb', _, hR⟩)
      · cases hz
      · cases hz
      · simp only at hb'
        subst hb'
        wp_walk
        exact hR
    case h =>
      exact .inl ⟨rfl, rfl, rfl⟩
theorem rcNe_pairs {A : Around} {s : Shared} {l b : Addr} {y0 y1 x0 x1 : Value} (hl : s.heap.IsTuple l #[y0, y1]) (hb : s.heap.IsTuple b #[x0, x1]) (hu : A.units < cLine) (h0 : EqP prog w A.in1 s y0 x0 true) (E Q : Value → Shared → Prop)
    (h1 : wpAny (model prog w) A.in1 (eqBool y1 x1) (fun c s' => Q (.bool (!c)) s') E s) : wpAny (model prog w) A (richCompare .NotEq (.ref l) (.ref b)) Q E s := by
  obtain ⟨⟨cls, dd, data, sl⟩, ho, hc, n, hd⟩ := id hl
  obtain ⟨⟨cls2, dd2, data2, sl2⟩, ho2, hc2, n2, hd2⟩ := id hb
  simp only at hc hd hc2 hd2
  subst hc hd hc2 hd2
  have ta : s.TypeIs (.ref l) "tuple" := ⟨_, ho, rfl⟩
  have tb : s.TypeIs (.ref b) "tuple" := ⟨_, ho2, rfl⟩
  exact wpAny_richCompare_same_room (op := .NotEq) ta tb F.slot_tuple_ne (call_meetsIn F.slot_tuple_ne ta F.entry_tuple_ne (F.args_tuple_ne_2 _ _) (tuple_ne2X l b y0 y1 x0 x1 n n2 dd dd2 sl sl2)
    ⟨ho, ho2, h0, wpAny_mono h1 (fun c s' q => (show Value.bool (!c) ≠ Value.notImplemented ∧ Q (.bool (!c)) s' from ⟨(fun x => nomatch x), q⟩)) fun _ _ x => x⟩) hu
end
end PySem.SeqAt
namespace DL
open PySem PySem.Spec PyProof.Rows L2
def rNeP (C : Addr) (sp : Sp) (K : PySem.W.Frag) : R2 := fun x y H Q => ∃ l m a b dx dy fs gs z, x = .ref l ∧ y = .ref m ∧ SqT K H l [.str z, .ref a] ∧ SqT K H m [.str z, .ref b] ∧ H a = some (.ins C dx fs) ∧ H b = some (.ins C dy gs) ∧ Q (.bl false) H ∧
  sp [.ref a, .ref b] H (fun z H' => ∃ c, z = .bl c ∧ Q (.bl (!c)) H') E0
section
variable {X : Cx} {k : Nat} {f : Addr} {fd : FuncData} {ps : List Str} {sp : Sp} {C : Addr}
theorem op_neP (F : FnOk X.prog X.w X.K X.mg X.base CX0 k f fd ps sp) (hm : Meth X.K C "__eq__" f) (hb : Binds X.K fd ps []) (hr : Room (k + 2) X.A) : OpR X (compareOp .NotEq) (rNeP C sp X.K) := by
  intro pins s σ H x y v u Q I rx ry h
  obtain ⟨l, m, a, b, dx, dy, fs, gs, z, rfl, rfl, hl, hm2, ha, hb', q0, q⟩ := h
  cases (show v = Value.ref l from rx)
  cases (show u = Value.ref m from ry)
  obtain ⟨its, r1, t1, _⟩ := I.tuple hl
  obtain ⟨its2, r2, t2, _⟩ := I.tuple hm2
  obtain ⟨u0, u1, rfl, h0, h1⟩ := vals2 r1
  obtain ⟨w0, w1, rfl, g0, g1⟩ := vals2 r2
  obtain ⟨k0, rfl⟩ := (show ∃ t, u0 = Value.str z t from h0)
  obtain ⟨k1, rfl⟩ := (show ∃ t, w0 = Value.str z t from g0)
  cases (show u1 = Value.ref a from h1)
  cases (show w1 = Value.ref b from g1)
  obtain ⟨mA, J, _⟩ := ins_get I.hok ha
  obtain ⟨mB, J', _⟩ := ins_get I.hok hb'
  obtain ⟨od, J, _⟩ := J.look
  obtain ⟨od', J', _⟩ := J'.look
  obtain ⟨m3, hF⟩ := I.fr
  show wpAny (model X.prog X.w) X.A (richCompare .NotEq (.ref l) (.ref m)) (EP X pins σ Q) X.xe s
  refine SeqAt.rcNe_pairs t1 t2 hr.units0 ?_ _ _ ?_
  · have e : SeqAt.EqAt X.A.in1 s (.str z k0) (.str z k1) true := by
      have h := SeqAt.EqAt.str_str (A := X.A.in1) (s := s) z k0 z k1
      rw [beq_self_eq_true] at h
      exact h
    exact e.eqP
  · unfold eqBool
    refine wpAny_holding ?_
    refine wpAny_ite_split (fun hab => ?_) (fun _ => ?_)
    · wp_walk
      exact ⟨.bl false, H, I, rfl, q0⟩
    · refine wpAny_bind ?_
      refine PySem.W.cmp_K (op := .Eq) (tb := .ref C) hr.in1.units0 hF I.ok.mod.kin J J'.type (by simp [PySem.W.notFirst]) hm.at_ hm.fn ?_
      refine wpAny_mono (run_fnA (us := [.ref a, .ref b]) (vs := [.ref a, .ref b]) F (hr.in1.mono (by omega)) I.env0.in1 hb I (.cons rfl (.cons rfl .nil)) q) (fun w s' z => ?_) fun _ _ x => x
      obtain ⟨z', H', I', rz, c, ec, qz⟩ := z
      subst ec
      cases (show w = Value.bool c from rz)
      exact wpAny_truthy_bool ⟨.bl (!c), H', I', rfl, qz⟩
end
section
variable {X : Cx} {k : Nat} {C : Addr} {t : TF} {a b : Expr} {pos : Pos} {ta tb : TD}
def fNeP (C : Addr) (t : TF) : FD2 := fun d e δ Q => match d, e with
  | .tup [.str x, .ins C1 n1 d1], .tup [.str y, .ins C2 n2 d2] => x = y ∧ C1 = C ∧ C2 = C ∧ Q (.dt (.bl false)) δ ∧ t [.dt (.ins C1 n1 d1), .dt (.ins C2 n2 d2)] (fun r => ∃ c, r = .dt (.bl c) ∧ Q (.dt (.bl (!c))) δ)
  | _, _ => False
theorem mono_fNeP (mt : MonoF t) : MonoF2 (fNeP C t) := fun d e δ Q Q' q w => by
  unfold fNeP at q ⊢
  split at q
  · exact ⟨q.1, q.2.1, q.2.2.1, w _ _ q.2.2.2.1, mt _ _ _ q.2.2.2.2 fun r ⟨c, a, z⟩ => ⟨c, a, w _ _ z⟩⟩
  · exact q
theorem opS_neP (mt : MonoF t) (ln : ∀ rs Q, t rs Q → rs.length = 2) {K : PySem.W.Frag} : OpS K (rNeP C (spD K 2 t) K) (fNeP C t) := by
  intro B H0 G0 H σ δ G x y d e Q R hx hy q
  unfold fNeP at q
  split at q
  · obtain ⟨rfl, rfl, rfl, q0, q⟩ := q
    cases hx with
    | @tup l xs _ ht hA =>
      cases hA with
      | @cons x1 xs1 _ _ hx1 hA1 =>
        cases hA1 with
        | @cons x2 xs2 _ _ hx2 hA2 =>
          cases hA2
          cases hy with
          | @tup m ys _ ht' hB =>
            cases hB with
            | @cons y1 ys1 _ _ hy1 hB1 =>
              cases hB1 with
              | @cons y2 ys2 _ _ hy2 hB2 =>
                cases hB2
                cases hx1
                cases hy1
                obtain ⟨a, dx, fs, rfl, ha⟩ := ins_at R hx2
                obtain ⟨b, dy, gs, rfl, hb⟩ := ins_at R hy2
                refine ⟨l, m, a, b, dx, dy, fs, gs, _, rfl, rfl, sameT R.sub ht, sameT R.sub ht', ha, hb, aft_here R (.bl _) q0, sp_of R (vs := [.ref a, .ref b]) (rs := [.dt _, .dt _]) ⟨hx2, hy2, trivial⟩ mt ln q fun r ⟨c, er, z⟩ v H' G' R' s' f' ok => ?_⟩
                subst er
                cases ok.1
                exact ⟨c, rfl, z _ _ _ R' s' f' (resOk_dt (.bl _))⟩
  · exact q.elim
theorem pdt_neP (M : MthX X.prog X.w X.K X.mg X.base k C "__eq__" 2 t) (hr : Room (k + 2) X.A) (ha : PD X a ta) (hb : PD X b tb) (hm : behindInMarks .NotEq b = false := nomark _) : PDT X (.Compare a [.NotEq] [b] pos) (tdBool (td2 (fNeP C t) ta tb)) := by
  obtain ⟨f, fd, ps, F, hc, hmt, hbb⟩ := M.ex
  exact pdt_of (op_neP F hmt hbb hr) (mono_fNeP M.mono) (opS_neP M.mono M.len) ha hb hm
end
end DL
set_option Elab.async false
set_option linter.all false
set_option maxRecDepth 100000
set_option maxHeartbeats 4000000
namespace DL
open PySem PySem.Spec PyProof.Rows L2
abbrev TDF := (List D → List Sl → Prop) → (Addr → List Str → List D → List Sl → Prop) → List Sl → Prop
def MonoDF (t : TDF) : Prop := ∀ (Q Q' : List D → List Sl → Prop) (W W' : Addr → List Str → List D → List Sl → Prop) δ, (∀ ds δ', Q ds δ' → Q' ds δ') → (∀ C ns ds δ', W C ns ds δ' → W' C ns ds δ') → t Q W δ → t Q' W' δ
def finF (X : Cx) (B : Bg X.K) (H0 G0 : Hp) (C : Addr) (f : Str) (D : Ends) : List DL.D → List Sl → Prop := fun ds δ' => ∀ σ' H' G' x dx z, Rel X.K B H0 G0 H' σ' δ' G' → δ'[0]? = some (.oI x C [f] [.lst ds]) → H' x = some (.ins C dx [(f, .ref z)]) → H0 z = none → z ≠ x → D.nx σ' H'
def tyF (X : Cx) (C : Addr) (f : Str) (t : TDF) : TS := fun D σ H => ∃ B H0 G0 δ G, Rel X.K B H0 G0 H σ δ G ∧ t (finF X B H0 G0 C f D) (exW X B H0 G0) δ
structure PDFs (X : Cx) (C : Addr) (f : Str) (sts : List Stmt) (t : TDF) : Prop where
  ps : PSs X sts (tyF X C f t)
  mono : MonoDF t
abbrev TFF := List Sl → (List D → Prop) → (Addr → List Str → List D → Prop) → Prop
def MonoFF (t : TFF) : Prop := ∀ rs (Q Q' : List D → Prop) (W W' : Addr → List Str → List D → Prop), t rs Q W → (∀ ds, Q ds → Q' ds) → (∀ C ns ds, W C ns ds → W' C ns ds) → t rs Q' W'
structure RetF (K : PySem.W.Frag) (B : Bg K) (C : Addr) (f : Str) (H G H' G' : Hp) (x : Addr) (ds : List D) : Prop where
  gg : Same G G'
  gh : Same G' H'
  bag : ∀ b c, (b, c) ∈ B → BagOk H' G' b c
  fra : ∀ a o, a ≠ x → H a = some o → NotB B a → H' a = some o
  sz : HSz H'
  gn : ∀ a o, G' a = some o → G a = some o ∨ N0 (H a)
  gx : G' x = none
  obj : ∃ dx z ws, H' x = some (.ins C dx [(f, .ref z)]) ∧ H z = none ∧ G' z = some (.lst ws) ∧ DdA K G' ws ds
def spF (K : PySem.W.Frag) (C : Addr) (f : Str) (n : Nat) (t : TFF) : Sp := fun vs H Q E => ∃ x vs' B G dx rs, vs = .ref x :: vs' ∧ vs'.length = n ∧ H x = some (.ins C dx []) ∧ G x = none ∧ NotB B x ∧ Same G H ∧ (∀ b c, (b, c) ∈ B → BagOk H G b c) ∧ HSz H ∧ ArgsOk K B G vs' rs ∧
  t rs (fun ds => ∀ H' G', RetF K B C f H G H' G' x ds → Q .non H') (fun C' ns ds => ∀ H' G' dd xs, RetXI K B H G H' G' dd x → ns.length = xs.length → H' dd = some (.xd (ns.zip xs)) → DdA K G' xs ds → E (.ref C') (some dd) H')
structure InitF (P : Program) (w : World) (K : PySem.W.Frag) (mg : Str → Option Value) (base : Heap) (k : Nat) (C : Addr) (x f : Str) (n : Nat) (t : TFF) : Prop where
  ex : ∃ fa fd ps, FnOk P w K mg base (L2.CX P w) k fa fd ps (spF K C f n t) ∧ Mk K C fa ∧ mg x = some (.ref C) ∧ Binds K fd ps []
  mono : MonoFF t
  len : ∀ rs Q W, t rs Q W → rs.length = n
section
variable {P : Program} {w : World} {K : PySem.W.Frag} {mg : Str → Option Value} {base : Heap} {m qual : Str} {st : Stmt} {fa : Addr} {fd : FuncData} {N ps : List Str} {k n : Nat} {t : TFF} {C : Addr} {f : Str}
theorem fnF (F : Fun K m qual st fa fd) (S : FnScope N ps (defScope st)) (hn : ps.length = n + 1)
    (hb : ∀ (cdv : Value) (A : Around) (outer : List Env) (s : Shared) (H : Hp) (E : XK), Room k (A.deeper (envOfC qual (defScope st) s.heap.objs.size fa cdv)) →
      ∃ tS, PDFs (cxOf (L2.CX P w) P w K mg base N qual (defScope st) fa cdv A outer s H E) C f (defBody st) tS ∧ ∀ x rs (Q : List DL.D → Prop) (W : Addr → List Str → List DL.D → Prop), t rs Q W → tS (fun ds δ => δ[0]? = some (.oI x C [f] [.lst ds]) ∧ Q ds) (fun C ns ds _ => W C ns ds) (startD N (.oI x C [] [] :: rs))) :
    FnOk P w K mg base (L2.CX P w) (k + 1) fa fd ps (spF K C f n t) :=
  F.okX S (fun vs H Q E h => by obtain ⟨x, vs', B, G, dx, rs, rfl, hl, _⟩ := h; rw [List.length_cons, hl]; exact hn.symm) fun cdv A outer s H vs Q E hr want => by
    obtain ⟨tS, h, le⟩ := hb cdv A outer s H E hr
    refine ⟨_, h.ps, ?_⟩
    obtain ⟨x, vs', B, G, dx, rs, rfl, hl, hx, gx, nx, sub, bag, sz, oks, q⟩ := want
    refine ⟨B, _, G, _, G, rel_startI hx gx nx sub bag sz oks, h.mono _ _ _ _ _ ?_ ?_ (le x rs _ _ q)⟩
    · intro ds δ' ⟨e0, q⟩ σ' H' G' x2 dx2 z R' e hx' hz zx
      rw [e0] at e
      cases e
      have hz2 : H z = none := by
        have y : (if z = x then none else H z) = none := hz
        rw [if_neg zx] at y; exact y
      rcases R'.sl 0 _ e0 with y | ⟨v, ev, a, rfl, ga, rfl, dx', xs, h0, h1, h2⟩
      · cases y
      · rw [hx'] at h1
        match xs, h0 with
        | [y], _ =>
          cases h1
          cases h2 with
          | cons h3 _ =>
            cases h3 with
            | lst h4 h5 =>
              exact q H' G' ⟨R'.g0, R'.sub, R'.bag, fun b o nb e2 n => R'.ent b o (by rw [if_neg nb]; exact e2) n, R'.sz, fun b o e2 => by
                rcases R'.gn b o e2 with z | z
                · exact .inl z
                · by_cases hb : b = a
                  · rw [hb, ga] at e2; cases e2
                  · rw [if_neg hb] at z; exact .inr z, ga, dx2, z, _, hx', hz2, h4, h5⟩
    · intro C' ns ds δ q σ' H' G' dd xs R' hl hd h0 gd nb no hA
      exact WM.of (takes_of rfl rfl rfl rfl) (q H' G' dd xs ⟨R'.g0, R'.sub, R'.bag, fun b o nb e2 n => R'.ent b o (by rw [if_neg nb]; exact e2) n, R'.sz, fun b o e2 => by
        rcases R'.gn b o e2 with z | z
        · exact .inl z
        · by_cases hb : b = x
          · exact .inr (.inr hb)
          · rw [if_neg hb] at z; exact .inr (.inl z), by
        by_cases hb : dd = x
        · exact .inr hb
        · have h0 : (if dd = x then none else H dd) = none := h0
          rw [if_neg hb] at h0; exact .inl h0, gd⟩ hl hd hA)
theorem InitF.of {x : Str} (D : Dfi K mg C x qual st ps) (S : FnScope N ps (defScope st)) (hn : ps.length = n + 1) (mt : MonoFF t) (ln : ∀ rs Q W, t rs Q W → rs.length = n)
    (hb : ∀ (fa : Addr) (cdv : Value) (A : Around) (outer : List Env) (s : Shared) (H : Hp) (E : XK), Room k (A.deeper (envOfC qual (defScope st) s.heap.objs.size fa cdv)) →
      ∃ tS, PDFs (cxOf (L2.CX P w) P w K mg base N qual (defScope st) fa cdv A outer s H E) C f (defBody st) tS ∧ ∀ xa rs (Q : List DL.D → Prop) (W : Addr → List Str → List DL.D → Prop), t rs Q W → tS (fun ds δ => δ[0]? = some (.oI xa C [f] [.lst ds]) ∧ Q ds) (fun C ns ds _ => W C ns ds) (startD N (.oI xa C [] [] :: rs))) :
    InitF P w K mg base (k + 1) C x f n t := by
  obtain ⟨fa, fd, F, hm, hx, hbd⟩ := D.ex
  exact ⟨⟨fa, fd, ps, fnF F S hn (fun cdv A outer s H E hr => hb fa cdv A outer s H E hr), hm, hx, hbd⟩, mt, ln⟩
end
end DL
set_option Elab.async false
set_option linter.all false
set_option maxRecDepth 100000
set_option maxHeartbeats 4000000
namespace DL
open PySem PySem.Spec PyProof.Rows L2
end DL
set_option Elab.async false
set_option linter.all false
set_option maxRecDepth 100000
set_option maxHeartbeats 4000000
namespace DL
open PySem PySem.Spec PyProof.Rows L2
section
variable {K : PySem.W.Frag} {B : Bg K} {H0 G0 H1 G1 H G : Hp} {σ : L2.St} {δ : List Sl}
theorem Rel.keep (R : Rel K B H1 G1 H σ δ G) {b : Addr} {o : HO} (hb : H b = some o) (gb : G b = none) (h1 : H1 b = none) (no : ∀ i, ¬ Own σ δ i b) : Rel K B (hideH [b] H H1) G1 H σ δ G := by
  have low : ∀ a o, H1 a = some o → hideH [b] H H1 a = some o := fun a o e => by
    rw [hideH_out fun z => by rw [List.mem_singleton.mp z, h1] at e; cases e]; exact e
  refine ⟨R.sub, R.g0, fun a o e nb => ?_, R.len, R.sl, R.sep, fun i a oa => ?_, R.bag, fun a o e => ?_, R.sz, fun i y sh cs ess e => ⟨(R.hd i y sh cs ess e).1, (R.hd i y sh cs ess e).2.base fun a o e _ => low a o e⟩⟩
  · by_cases ha : a ∈ [b]
    · rw [hideH_in ha] at e; exact e
    · rw [hideH_out ha] at e; exact R.ent a o e nb
  · have na : a ∉ [b] := fun z => no i (by rw [← List.mem_singleton.mp z]; exact oa)
    rw [hideH_out na]; exact R.own i a oa
  · have na : a ∉ [b] := fun z => by rw [List.mem_singleton.mp z, gb] at e; cases e
    rw [hideH_out na]; exact R.gn a o e
end
end DL
set_option Elab.async false
set_option linter.all false
set_option maxRecDepth 100000
set_option maxHeartbeats 4000000
namespace DL
open PySem PySem.Spec PyProof.Rows L2
end DL
set_option Elab.async false
set_option linter.all false
set_option maxRecDepth 100000
set_option maxHeartbeats 4000000
namespace DL
open PySem PySem.Spec PyProof.Rows L2
section
variable {X : Cx} {k : Nat} {f : Addr} {fd : FuncData} {ps : List Str} {sp : Sp} {C : Addr} {t : TF} {a b : Expr} {pos : Pos} {ta tb : TD}
theorem NoTy.sub {K : PySem.W.Frag} (h : NoTy K C .tuple) : PySem.W.subIn K (.ref C) (.type "tuple") = some false := by
  have z := h.no
  unfold PySem.W.kitOne at z
  have e : (Value.ref C == Value.type Ty.tuple.name) = false := rfl
  rw [e, if_neg Bool.false_ne_true] at z
  unfold PySem.W.kitCls at z
  dsimp only at z
  split at z
  · exact z
  · cases z
end
end DL
set_option Elab.async false
set_option linter.all false
set_option maxRecDepth 100000
set_option maxHeartbeats 4000000
namespace DL
open PySem PySem.Spec PyProof.Rows L2
section
variable {κ : Type} [DecidableEq κ] {α : Type}
def putVs (ks : List κ) (xs : List α) (k : κ) (v : α) : List α := if k ∈ ks then List.zipWith (fun j x => if j = k then v else x) ks xs else xs ++ [v]
end
theorem DdA.putVs {κ : Type} [DecidableEq κ] {K : PySem.W.Frag} {G : Hp} {k : κ} {v : V} {d : D} (hd : Dd K G v d) {ks : List κ} {xs : List V} {ds : List D} (h : DdA K G xs ds) : DdA K G (putVs ks xs k v) (DL.putVs ks ds k d) := by
  unfold DL.putVs
  split
  · rename_i hk
    clear hk
    induction ks generalizing xs ds with
    | nil => exact .nil
    | cons j ks ih =>
      cases h with
      | nil => exact .nil
      | cons h1 h2 =>
        rw [List.zipWith_cons_cons, List.zipWith_cons_cons]
        refine .cons ?_ (ih h2)
        by_cases hj : j = k
        · rw [if_pos hj, if_pos hj]; exact hd
        · rw [if_neg hj, if_neg hj]; exact h1
  · exact h.append (.one hd)
theorem Rel.oT {K : PySem.W.Frag} {B : Bg K} {H0 G0 H : Hp} {σ : L2.St} {δ : List Sl} {G : Hp} (R : Rel K B H0 G0 H σ δ G) {i : Nat} {ks : List (List Key)} {ds : List D} (e : δ[i]? = some (.oT ks ds)) : ∃ a xs, σ[i]? = some (some (.ref a)) ∧ Own σ δ i a ∧ ks.length = xs.length ∧ H a = some (.dT (ks.zip xs)) ∧ DdA K G xs ds := by
  rcases R.sl i _ e with z | ⟨v, ev, a, rfl, ga, xs, h0, h1, h2⟩
  · cases z
  · exact ⟨a, xs, ev, ⟨ev, _, e, rfl⟩, h0, h1, h2⟩
end DL
set_option Elab.async false
set_option linter.all false
set_option maxRecDepth 100000
set_option maxHeartbeats 4000000
namespace DL
open PySem PySem.Spec PyProof.Rows L2
end DL
set_option Elab.async false
set_option linter.all false
set_option maxRecDepth 100000
set_option maxHeartbeats 4000000
namespace DL
open PySem PySem.Spec PyProof.Rows L2
end DL
set_option Elab.async false
set_option linter.all false
set_option maxRecDepth 100000
set_option maxHeartbeats 4000000
namespace DL
open PySem PySem.Spec PyProof.Rows L2
open PySem.W (EachIs AllAlike Sortable dataLe alike)
open PySem.Calls
end DL
set_option Elab.async false
set_option linter.all false
set_option maxRecDepth 100000
set_option maxHeartbeats 4000000
namespace DL
open PySem PySem.Spec PyProof.Rows L2
end DL
set_option Elab.async false
set_option linter.all false
set_option maxRecDepth 100000
set_option maxHeartbeats 4000000
namespace DL
open PySem PySem.Spec PyProof.Rows L2
structure HidS (K : PySem.W.Frag) (B : Bg K) (H0 : Hp) (σ : L2.St) (δ : List Sl) (H' G' : Hp) (x : Addr) (sh : NSh) (bs : List Addr) (dss : List (List D)) : Prop where
  nd : bs.Nodup
  nx : x ∉ bs
  len : bs.length = dss.length
  out : H' x = some (sh.obj (bs.map V.ref)) ∧ NotB B x ∧ G' x = none
  inn : ∀ (k : Nat) (b : Addr), bs[k]? = some b → NotB B b ∧ G' b = none ∧ ∃ vs ds, dss[k]? = some ds ∧ H' b = some (.lst vs) ∧ DdA K G' vs ds
  new : ∀ a ∈ x :: bs, H0 a = none ∧ ∀ i, ¬ Own σ δ i a
end DL
set_option Elab.async false
set_option linter.all false
set_option maxRecDepth 100000
set_option maxHeartbeats 4000000
namespace DL
open PySem PySem.Spec PyProof.Rows L2
end DL
set_option Elab.async false
set_option linter.all false
set_option maxRecDepth 100000
set_option maxHeartbeats 4000000
namespace DL
open PySem PySem.Spec PyProof.Rows L2
def AftIM (K : PySem.W.Frag) (B : Bg K) (H0 G0 : Hp) (σ : L2.St) (G : Hp) (R : It → Hp → Prop) : List D → List Sl → Prop := fun xs δ' => ∀ J H' G', Rel K B H0 G0 H' σ δ' G' → Same G G' → ItOk K G' J xs → R J H'
def tyIM (K : PySem.W.Frag) (t : TDI) : TI := fun σ H R => ∃ B H0 G0 δ G, Rel K B H0 G0 H σ δ G ∧ t δ (AftIM K B H0 G0 σ G R)
structure PDIM (X : Cx) (tg e : Expr) (t : TDI) : Prop where
  pi : PI X tg e (tyIM X.K t)
  mono : MonoI t
theorem ValOk.upK {K : PySem.W.Frag} {B : Bg K} {H H' G G' : Hp} {a : Addr} {r : Sl} (io : r.isOwn = true) (h : ValOk K B H G (.ref a) r) (e : ∀ o, H a = some o → H' a = some o) (s : Same G G') (g : G' a = none) : ValOk K B H' G' (.ref a) r := by
  obtain ⟨b, eb, gb, oa⟩ := h.own io
  cases eb
  have z := oa.up e s
  cases r <;> first | exact ⟨a, rfl, g, z⟩ | cases io
end DL
set_option Elab.async false
set_option linter.all false
set_option maxRecDepth 100000
set_option maxHeartbeats 4000000
namespace DL
open PySem PySem.Spec PyProof.Rows L2
abbrev TI2 := Addr × List Int
structure GotU (ks : List TI2) (i : Nat) (L : List TI2) : Prop where
  sub : ∀ p ∈ L, p ∈ ks.take i
  all : ∀ p ∈ ks.take i, p.2 ∈ L.map (·.2)
theorem GotU.next {ks L L' : List TI2} {i : Nat} {x : TI2} (g : GotU ks i L) (h : ks[i]? = some x) (c1 : x.2 ∈ L.map (·.2) → L' = L) (c2 : x.2 ∉ L.map (·.2) → L'.Perm (x :: L)) : GotU ks (i + 1) L' := by
  have tk : ks.take (i + 1) = ks.take i ++ [x] := by rw [List.take_succ, h]; rfl
  by_cases c : x.2 ∈ L.map (·.2)
  · rw [c1 c]
    refine ⟨fun p hp => by rw [tk]; exact List.mem_append_left _ (g.sub p hp), fun p hp => ?_⟩
    rw [tk] at hp
    rcases List.mem_append.mp hp with z | z
    · exact g.all p z
    · rw [List.mem_singleton.mp z]; exact c
  · have pm := c2 c
    refine ⟨fun p hp => ?_, fun p hp => ?_⟩
    · rw [tk]
      rcases List.mem_cons.mp (pm.mem_iff.mp hp) with e | z
      · rw [e]; exact List.mem_append_right _ (List.mem_singleton.mpr rfl)
      · exact List.mem_append_left _ (g.sub p z)
    · rw [(pm.map (·.2)).mem_iff, List.map_cons]
      rw [tk] at hp
      rcases List.mem_append.mp hp with z | z
      · exact List.mem_cons_of_mem _ (g.all p z)
      · rw [List.mem_singleton.mp z]; exact List.mem_cons_self
end DL
set_option Elab.async false
set_option linter.all false
set_option maxRecDepth 100000
set_option maxHeartbeats 4000000
namespace DL
open PySem PySem.Spec PyProof.Rows L2
open PySem.W (EachIs AllAlike Sortable dataLe alike)
open PySem.Calls
def tI (k : List Int) : D := .tup (k.map D.int)
end DL
set_option Elab.async false
set_option linter.all false
set_option maxRecDepth 100000
set_option maxHeartbeats 4000000
namespace DL
open PySem PySem.Spec PyProof.Rows L2
end DL
set_option Elab.async false
set_option linter.all false
set_option maxRecDepth 100000
set_option maxHeartbeats 4000000
namespace DL
open PySem PySem.Spec PyProof.Rows L2
end DL
set_option Elab.async false
set_option linter.all false
set_option maxRecDepth 100000
set_option maxHeartbeats 4000000
namespace DL
open PySem PySem.Spec PyProof.Rows L2
end DL
set_option Elab.async false
set_option linter.all false
set_option maxRecDepth 100000
set_option maxHeartbeats 4000000
namespace DL
open PySem PySem.Spec PyProof.Rows L2
end DL
set_option Elab.async false
set_option linter.all false
set_option maxRecDepth 100000
set_option maxHeartbeats 4000000
namespace DL
open PySem PySem.Spec PyProof.Rows L2
open PySem.W (EachIs AllAlike Sortable dataLe alike)
open PySem.Calls
end DL
set_option Elab.async false
set_option linter.all false
set_option maxRecDepth 100000
set_option maxHeartbeats 4000000
namespace DL
open PySem PySem.Spec PyProof.Rows L2
theorem ints_back {K : PySem.W.Frag} {G : Hp} : ∀ {xs : List V} {ns : List Int}, DdA K G xs (ns.map D.int) → xs = ns.map V.int
  | _, [], h => by cases h; rfl
  | _, n :: ns, h => by
    rw [List.map_cons] at h
    cases h with
    | cons h1 h2 => cases h1; rw [ints_back h2]; rfl
end DL
set_option Elab.async false
set_option linter.all false
set_option maxRecDepth 100000
set_option maxHeartbeats 4000000
namespace DL
open PySem PySem.Spec PyProof.Rows L2
open PySem.Calls
end DL
set_option Elab.async false
set_option linter.all false
set_option maxRecDepth 100000
set_option maxHeartbeats 4000000
namespace DL
open PySem PySem.Spec PyProof.Rows L2
end DL
set_option Elab.async false
set_option linter.all false
set_option maxRecDepth 100000
set_option maxHeartbeats 4000000
namespace DL
open PySem PySem.Spec PyProof.Rows L2
end DL
set_option Elab.async false
set_option linter.all false
set_option maxRecDepth 100000
set_option maxHeartbeats 4000000
namespace DL
open PySem PySem.Spec PyProof.Rows L2
end DL
set_option Elab.async false
set_option linter.all false
set_option maxRecDepth 100000
set_option maxHeartbeats 4000000
namespace DL
open PySem PySem.Spec PyProof.Rows L2
end DL
set_option Elab.async false
set_option linter.all false
set_option maxRecDepth 100000
set_option maxHeartbeats 4000000
namespace DL
open PySem PySem.Spec PyProof.Rows L2
end DL
set_option Elab.async false
set_option linter.all false
set_option maxRecDepth 100000
set_option maxHeartbeats 4000000
namespace DL
open PySem PySem.Spec PyProof.Rows L2
end DL
set_option Elab.async false
set_option linter.all false
set_option maxRecDepth 100000
set_option maxHeartbeats 4000000
namespace DL
open PySem PySem.Spec PyProof.Rows L2
mutual
def flatD : D → Bool
  | .lst _ => false
  | .dK _ _ => false
  | .dT _ _ => false
  | .dL _ _ => false
  | .tup ds => flatA ds
  | .ins _ _ ds => flatA ds
  | _ => true
def flatA : List D → Bool
  | [] => true
  | d :: ds => flatD d && flatA ds
end
def keepO : HO → Bool
  | .lst _ => false
  | .dK _ => false
  | .dT _ => false
  | .frz _ u => keepO u
  | _ => true
def isTab : Cell → Bool
  | .tab _ => true
  | _ => false
def Bg.tb {K : PySem.W.Frag} (B : Bg K) : Bg K := ⟨B.L.filter fun p => isTab p.2, fun P q h => ⟨List.mem_filter.mpr ⟨(B.tabs P q h).1, rfl⟩, fun c hc => (B.tabs P q h).2 c (List.mem_filter.mp hc).1⟩⟩
theorem tb_in {K : PySem.W.Frag} {B : Bg K} {b : Addr} {c : Cell} (h : (b, c) ∈ B.tb) : (b, c) ∈ B ∧ isTab c = true := List.mem_filter.mp h
theorem in_tb {K : PySem.W.Frag} {B : Bg K} {b : Addr} {c : Cell} (h : (b, c) ∈ B) (e : isTab c = true) : (b, c) ∈ B.tb := List.mem_filter.mpr ⟨h, e⟩
theorem NotB.tb {K : PySem.W.Frag} {B : Bg K} {a : Addr} (n : NotB B a) : NotB B.tb a := fun c h => n c (tb_in h).1
def keepH (G : Hp) : Hp := fun a => match G a with
  | some o => if keepO o = true then some o else none
  | none => none
theorem keepH_some {G : Hp} {a : Addr} {o : HO} (h : keepH G a = some o) : G a = some o ∧ keepO o = true := by
  unfold keepH at h
  split at h
  · rename_i o' e
    split at h
    · rename_i k
      cases h
      exact ⟨e, k⟩
    · cases h
  · cases h
theorem keepH_of {G : Hp} {a : Addr} {o : HO} (h : G a = some o) (k : keepO o = true) : keepH G a = some o := by
  unfold keepH
  rw [h]
  exact if_pos k
section
variable {K : PySem.W.Frag} {G : Hp}
mutual
theorem Dd.keep : ∀ (d : D) (v : V), Dd K G v d → flatD d = true → Dd K (keepH G) v d
  | .non, _, h, _ => by cases h; exact .non
  | .bl b, _, h, _ => by cases h; exact .bl b
  | .int i, _, h, _ => by cases h; exact .int i
  | .str x, _, h, _ => by cases h; exact .str x
  | .lst ds, _, h, e => by cases e
  | .tup ds, _, h, e => by cases h with | tup h1 h2 => exact .tup (h1.imp (fun z => keepH_of z rfl) id) (DdA.keep ds _ h2 e)
  | .dK ks ds, _, h, e => by cases e
  | .dT ks ds, _, h, e => by cases e
  | .dL ks ds, _, h, e => by cases e
  | .ins C ns ds, _, h, e => by cases h with | ins h0 h1 h2 => exact .ins h0 (keepH_of h1 rfl) (DdA.keep ds _ h2 e)
theorem DdA.keep : ∀ (ds : List D) (vs : List V), DdA K G vs ds → flatA ds = true → DdA K (keepH G) vs ds
  | [], _, h, _ => by cases h; exact .nil
  | d :: ds, _, h, e => by
    have e : (flatD d && flatA ds) = true := e
    rw [Bool.and_eq_true] at e
    cases h with | cons h1 h2 => exact .cons (Dd.keep d _ h1 e.1) (DdA.keep ds _ h2 e.2)
end
end
def isIn : D → Bool
  | .int _ => true
  | _ => false
def inT : D → Bool
  | .int _ => true
  | .tup (x :: xs) => (x :: xs).all isIn
  | _ => false
theorem ints_in : ∀ {ds : List D}, ds.all isIn = true → ∃ ns : List Int, ds = ns.map D.int
  | [], _ => ⟨[], rfl⟩
  | d :: ds, h => by
    rw [List.all_cons, Bool.and_eq_true] at h
    obtain ⟨ns, rfl⟩ := ints_in h.2
    cases d with
    | int i => exact ⟨i :: ns, rfl⟩
    | _ => cases h.1
theorem int_map_inj : ∀ {ns ms : List Int}, ns.map V.int = ms.map V.int → ns = ms
  | [], [], _ => rfl
  | n :: ns, m :: ms, h => by
    rw [List.map_cons, List.map_cons] at h
    injection h with h1 h2
    injection h1 with h1
    rw [h1, int_map_inj h2]
  | [], _ :: _, h => by cases h
  | _ :: _, [], h => by cases h
section
variable {K : PySem.W.Frag} {G : Hp}
theorem tup_in {v : V} {n : Int} {ns : List Int} (h : Dd K G v (.tup ((n :: ns).map D.int))) : ∃ a, v = .ref a ∧ G a = some (.tup ((n :: ns).map V.int)) := by
  cases h with
  | @tup a xs _ h1 h2 =>
    have e := ints_back h2
    subst e
    refine ⟨a, rfl, h1.resolve_right fun z => ?_⟩
    obtain ⟨s, es⟩ := z.2 (.int n) List.mem_cons_self
    cases es
theorem inT_same {v : V} {d d' : D} (h : Dd K G v d) (h' : Dd K G v d') (e : inT d = true) (e' : inT d' = true) : d = d' := by
  cases d with
  | int i =>
    cases h
    cases d' with
    | int j => cases h'; rfl
    | tup xs => cases h'
    | _ => cases e'
  | tup xs =>
    match xs, e, h with
    | x :: xs, e, h =>
      obtain ⟨ns, en⟩ := ints_in (show (x :: xs).all isIn = true from e)
      match ns, en with
      | n :: ns, en =>
        rw [en] at h ⊢
        obtain ⟨a, rfl, ga⟩ := tup_in h
        cases d' with
        | int j => cases h'
        | tup ys =>
          match ys, e', h' with
          | y :: ys, e', h' =>
            obtain ⟨ms, em⟩ := ints_in (show (y :: ys).all isIn = true from e')
            match ms, em with
            | m :: ms, em =>
              rw [em] at h' ⊢
              obtain ⟨b, eb, gb⟩ := tup_in h'
              cases eb
              rw [ga] at gb
              have z := int_map_inj (HO.tup.inj (Option.some.inj gb))
              rw [z]
        | _ => cases e'
  | _ => cases e
theorem inA_same : ∀ {vs : List V} {ds es : List D}, DdA K G vs ds → DdA K G vs es → (∀ d ∈ ds, inT d = true) → (∀ d ∈ es, inT d = true) → ds = es
  | [], ds, es, h, h', _, _ => by cases h; cases h'; rfl
  | v :: vs, ds, es, h, h', e, e' => by
    cases h with
    | cons h1 h2 =>
      cases h' with
      | cons h3 h4 =>
        rw [inT_same h1 h3 (e _ List.mem_cons_self) (e' _ List.mem_cons_self), inA_same h2 h4 (fun d hd => e d (List.mem_cons_of_mem _ hd)) fun d hd => e' d (List.mem_cons_of_mem _ hd)]
theorem inT_mono {G2 : Hp} (s : ∀ (a : Addr) (n : Int) (ns : List Int), G a = some (.tup ((n :: ns).map V.int)) → G2 a = some (.tup ((n :: ns).map V.int))) {v : V} {d : D} (h : Dd K G v d) (e : inT d = true) : Dd K G2 v d := by
  cases d with
  | int i => cases h; exact .int i
  | tup xs =>
    match xs, e, h with
    | x :: xs, e, h =>
      obtain ⟨ns, en⟩ := ints_in (show (x :: xs).all isIn = true from e)
      match ns, en with
      | n :: ns, en =>
        rw [en] at h ⊢
        obtain ⟨a, rfl, ga⟩ := tup_in h
        have hA : ∀ ms : List Int, DdA K G2 (ms.map V.int) (ms.map D.int) := DdA.ints
        exact .tup (.inl (s a n ns ga)) (hA _)
  | _ => cases e
theorem inA_mono {G2 : Hp} (s : ∀ (a : Addr) (n : Int) (ns : List Int), G a = some (.tup ((n :: ns).map V.int)) → G2 a = some (.tup ((n :: ns).map V.int))) : ∀ {vs : List V} {ds : List D}, DdA K G vs ds → (∀ d ∈ ds, inT d = true) → DdA K G2 vs ds
  | _, [], h, _ => by cases h; exact .nil
  | _, d :: ds, h, e => by
    cases h with
    | cons h1 h2 => exact .cons (inT_mono s h1 (e d List.mem_cons_self)) (inA_mono s h2 fun x hx => e x (List.mem_cons_of_mem _ hx))
theorem rows_in : ∀ {vs : List V} {dss : List (List D)}, DdA K G vs (dss.map D.lst) → ∃ bs : List Addr, vs = bs.map V.ref ∧ bs.length = dss.length ∧ ∀ (k : Nat) (b : Addr), bs[k]? = some b → ∃ ws ds, dss[k]? = some ds ∧ G b = some (.lst ws) ∧ DdA K G ws ds
  | _, [], h => by cases h; exact ⟨[], rfl, rfl, fun k b e => by simp at e⟩
  | _, ds :: dss, h => by
    rw [List.map_cons] at h
    cases h with
    | cons h1 h2 =>
      obtain ⟨bs, rfl, hl, hb⟩ := rows_in h2
      cases h1 with
      | @lst a xs _ g1 g2 =>
        refine ⟨a :: bs, rfl, by rw [List.length_cons, List.length_cons, hl], fun k b e => ?_⟩
        cases k with
        | zero => cases e; exact ⟨xs, ds, rfl, g1, g2⟩
        | succ k => exact hb k b e
end
def joinH (G G' : Hp) : Hp := fun a => match G a with
  | some o => some o
  | none => keepH G' a
theorem joinH_l {G G' : Hp} : Same G (joinH G G') := fun a o e => by unfold joinH; rw [e]
theorem joinH_r {G G' : Hp} {a : Addr} {o : HO} (n : G a = none) (h : G' a = some o) (k : keepO o = true) : joinH G G' a = some o := by
  unfold joinH; rw [n]; exact keepH_of h k
theorem joinH_some {G G' : Hp} {a : Addr} {o : HO} (h : joinH G G' a = some o) : G a = some o ∨ (G a = none ∧ G' a = some o ∧ keepO o = true) := by
  unfold joinH at h
  cases e : G a with
  | some o' => rw [e] at h; exact .inl h
  | none => rw [e] at h; exact .inr ⟨rfl, keepH_some h⟩
theorem bag_nn {K : PySem.W.Frag} {B : Bg K} {H G : Hp} {b : Addr} {c : Cell} (h : BagOk H G b c) : N0 (H b) → False := by
  cases c with
  | bag c => obtain ⟨x, m, i, ns, h1, _⟩ := h; rw [h1]; exact id
  | cnt => obtain ⟨n, h1, _⟩ := h; rw [h1]; exact id
  | tab q => obtain ⟨⟨ps, h1, _⟩, _⟩ := h; rw [h1]; exact id
theorem bag_tab {H G G2 : Hp} {b : Addr} {q : Str} (h : BagOk H G b (.tab q)) (s : ∀ c, G c = some (LamX.CodeO c q) → G2 c = some (LamX.CodeO c q)) (n : G2 b = none) : BagOk H G2 b (.tab q) := by
  obtain ⟨⟨ps, h1, h2, h3⟩, _⟩ := h
  exact ⟨⟨ps, h1, h2, fun pos cv e => by obtain ⟨c, e1, e2⟩ := h3 pos cv e; exact ⟨c, e1, s c e2⟩⟩, n⟩
theorem RetOk.rows {K : PySem.W.Frag} {B : Bg K} {H0 G0 H G H' G' : Hp} {σ : L2.St} {δ : List Sl} {v : V} {dss : List (List D)} (R : Rel K B H0 G0 H σ δ G) (k : RetOk K B.tb H (keepH G) H' G' v (.ol (dss.map D.lst))) (nd : dss.Nodup) (hin : ∀ ds ∈ dss, ∀ d ∈ ds, inT d = true) :
    ∃ x bs G2, v = .ref x ∧ Rel K B H0 G0 H' σ δ G2 ∧ Same G G2 ∧ Fra B H H' ∧ HidS K B H0 σ δ H' G2 x .l bs dss := by
  obtain ⟨x, rfl, gx, vs, hx, hA⟩ := k.val
  obtain ⟨bs, rfl, hl, hb⟩ := rows_in hA
  have x0 : H x = none := k.own rfl x rfl
  have old : ∀ a o, H a = some o → NotB B a → H' a = some o := fun a o e n => k.fra a o e n.tb
  have bagN : ∀ {a : Addr} {c : Cell}, (a, c) ∈ B → H a ≠ none := fun {a c} h z => bag_nn (B := B) (R.bag a c h) (by rw [z]; trivial)
  have nb : ∀ {a : Addr}, H a = none → NotB B a := fun {a} h c hc => bagN hc h
  have b0 : ∀ (l : Nat) (b : Addr), bs[l]? = some b → H b = none := fun l b e => by
    obtain ⟨ws, ds, _, g, _⟩ := hb l b e
    rcases k.gn b _ g with z | z
    · cases (keepH_some z).2
    · cases h : H b with
      | none => rfl
      | some o =>
        rw [h] at z
        cases o with
        | tup xs =>
          have n : NotB B b := fun c hc => bag_nn (B := B) (R.bag b c hc) (by rw [h]; trivial)
          have h1 := old b _ h n
          rw [k.gh b _ g] at h1
          cases h1
        | _ => exact z.elim
  have gN : ∀ {a : Addr}, H a = none → G a = none := fun {a} h => R.sub.free h
  have jx : ∀ {a : Addr} {ws : List V}, H a = none → G' a = some (.lst ws) → joinH G G' a = none := fun {a ws} h g => none_of fun o z => by
    rcases joinH_some z with y | ⟨_, y, ko⟩
    · rw [gN h] at y; cases y
    · rw [g] at y; cases y; cases ko
  have bagH : ∀ b c, (b, c) ∈ B → isTab c = false → H' b = H b := fun b c hc ht => by
    cases h : H b with
    | none => exact absurd h (bagN hc)
    | some o =>
      refine k.fra b o h fun c2 h2 => ?_
      obtain ⟨h3, h4⟩ := tb_in h2
      have z1 := R.bag b c hc
      have z2 := R.bag b c2 h3
      cases c2 with
      | tab q =>
        obtain ⟨⟨ps, e1, _⟩, _⟩ := z2
        cases c with
        | bag c => obtain ⟨_, _, _, _, e2, _⟩ := z1; rw [e1] at e2; cases e2
        | cnt => obtain ⟨_, e2, _⟩ := z1; rw [e1] at e2; cases e2
        | tab q => cases ht
      | bag c => cases h4
      | cnt => cases h4
  have k2 : RetOk K B H G H' (joinH G G') .non (.dt .non) := by
    refine ⟨joinH_l, fun a o e => ?_, fun b c hc => ?_, old, k.sz, fun a o e => ?_, .non, (fun z => nomatch z), fun z => nomatch z⟩
    · rcases joinH_some e with y | ⟨_, y, _⟩
      · exact old a o (R.sub _ _ y) (R.nob y)
      · exact k.gh _ _ y
    · have gb : G b = none := (R.bag b c hc).gn
      have jb : joinH G G' b = none := none_of fun o z => by
        rcases joinH_some z with y | ⟨_, y, _⟩
        · rw [gb] at y; cases y
        · rcases k.gn b o y with u | u
          · have w := (keepH_some u).1
            have gb2 := (R.bag b c hc).gn
            rw [gb2] at w; cases w
          · exact bag_nn (B := B) (R.bag b c hc) u
      cases c with
      | tab q =>
        refine bag_tab (k.bag b (.tab q) (in_tb hc rfl)) (fun c e => ?_) jb
        cases g : G c with
        | some o =>
          have h1 := old c o (R.sub _ _ g) (R.nob g)
          rw [k.gh _ _ e] at h1
          cases h1
          exact joinH_l _ _ g
        | none => exact joinH_r g e rfl
      | bag c => exact (R.bag b (.bag c) hc).up (bagH b _ hc rfl) joinH_l jb
      | cnt => exact (R.bag b .cnt hc).up (bagH b _ hc rfl) joinH_l jb
    · rcases joinH_some e with y | ⟨_, y, _⟩
      · exact .inl y
      · rcases k.gn a o y with u | u
        · exact .inl (keepH_some u).1
        · exact .inr u
  obtain ⟨R2, _⟩ := R.call k2
  have s2 : ∀ (a : Addr) (n : Int) (ns : List Int), G' a = some (.tup ((n :: ns).map V.int)) → joinH G G' a = some (.tup ((n :: ns).map V.int)) := fun a n ns e => by
    cases g : G a with
    | some o =>
      have h1 := old a o (R.sub _ _ g) (R.nob g)
      rw [k.gh _ _ e] at h1
      cases h1
      exact joinH_l _ _ g
    | none => exact joinH_r g e rfl
  have new : ∀ {a : Addr}, H a = none → H0 a = none ∧ ∀ i, ¬ Own σ δ i a := fun {a} h => by
    obtain ⟨d0, _, dO⟩ := R.newOwn h
    exact ⟨d0, dO⟩
  refine ⟨x, bs, _, rfl, R2, joinH_l, old, ?_, ?_, hl, ⟨hx, nb x0, ?_⟩, fun l b e => ?_, fun a ha => ?_⟩
  · refine List.pairwise_iff_getElem.mpr fun i j hi hj hij e => ?_
    have ei : bs[i]? = some bs[i] := List.getElem?_eq_getElem hi
    have ej : bs[j]? = some bs[i] := by rw [e]; exact List.getElem?_eq_getElem hj
    obtain ⟨ws, ds, d1, g1, a1⟩ := hb i _ ei
    obtain ⟨us, es, d2, g2, a2⟩ := hb j _ ej
    rw [g1] at g2
    cases g2
    have z := inA_same a1 a2 (hin ds (List.mem_of_getElem? d1)) (hin es (List.mem_of_getElem? d2))
    subst z
    have hi2 : i < dss.length := by rw [← hl]; exact hi
    have hj2 : j < dss.length := by rw [← hl]; exact hj
    have q := List.pairwise_iff_getElem.mp nd i j hi2 hj2 hij
    rw [List.getElem?_eq_getElem hi2] at d1
    rw [List.getElem?_eq_getElem hj2] at d2
    exact q (by rw [Option.some.inj d1, Option.some.inj d2])
  · intro z
    obtain ⟨l, e⟩ := List.getElem?_of_mem z
    obtain ⟨_, _, _, g, _⟩ := hb l x e
    rw [gx] at g; cases g
  · refine none_of fun o z => ?_
    rcases joinH_some z with y | ⟨_, y, _⟩
    · rw [gN x0] at y; cases y
    · rw [gx] at y; cases y
  · obtain ⟨ws, ds, d1, g1, a1⟩ := hb l b e
    exact ⟨nb (b0 l b e), jx (b0 l b e) g1, ws, ds, d1, k.gh _ _ g1, inA_mono s2 a1 (hin ds (List.mem_of_getElem? d1))⟩
  · rcases List.mem_cons.mp ha with rfl | ha
    · exact new x0
    · obtain ⟨l, e⟩ := List.getElem?_of_mem ha
      exact new (b0 l a e)
end DL
set_option Elab.async false
set_option linter.all false
set_option maxRecDepth 100000
set_option maxHeartbeats 4000000
namespace DL
open PySem PySem.Spec PyProof.Rows L2
end DL
set_option Elab.async false
set_option linter.all false
set_option maxRecDepth 100000
set_option maxHeartbeats 4000000
namespace DL
open PySem PySem.Spec PyProof.Rows L2
end DL
set_option Elab.async false
set_option linter.all false
set_option maxRecDepth 100000
set_option maxHeartbeats 4000000
namespace DL
open PySem PySem.Spec PyProof.Rows L2
end DL
set_option Elab.async false
set_option linter.all false
set_option maxRecDepth 100000
set_option maxHeartbeats 4000000
namespace DL
open PySem PySem.Spec PyProof.Rows L2
end DL
set_option Elab.async false
set_option linter.all false
set_option maxRecDepth 100000
set_option maxHeartbeats 4000000
namespace DL
open PySem PySem.Spec PyProof.Rows L2
theorem put_map {κ α β : Type} [DecidableEq κ] {k : α → κ} {f : α → β} {u : κ} {y : β} (U : List α) (h : u ∈ U.map k) : putVs (U.map k) (U.map f) u y = U.map fun a => if k a = u then y else f a := by
  unfold putVs
  rw [if_pos h]
  clear h
  induction U with
  | nil => rfl
  | cons a U ih => rw [List.map_cons, List.map_cons, List.zipWith_cons_cons, ih, List.map_cons]
theorem hds_cons {s : Sl} (h : s.isHd = false) (δ : List Sl) : hdsOf (s :: δ) = hdsOf δ := by cases s <;> first | rfl | cases h
section
variable {α : Type} [DecidableEq α]
inductive Rch (nx : α → List α) (st : α) : α → Prop
  | one {y : α} : y ∈ nx st → Rch nx st y
  | more {x y : α} : Rch nx st x → y ∈ nx x → Rch nx st y
theorem Rch.trans {nx : α → List α} {a b c : α} (h1 : Rch nx a b) (h2 : Rch nx b c) : Rch nx a c := by
  induction h2 with
  | one h => exact .more h1 h
  | more _ h ih => exact .more ih h
structure Clo (nx : α → List α) (st : α) (F W : List α) : Prop where
  nd : F.Nodup
  snd : ∀ x ∈ F, Rch nx st x
  wf : ∀ x ∈ W, x = st ∨ x ∈ F
  cl : ∀ x, x = st ∨ x ∈ F → x ∈ W ∨ ∀ y ∈ nx x, y ∈ F
theorem Clo.step {nx : α → List α} {st x : α} {F W ex : List α} (h : Clo nx st F (W ++ [x])) (nd : (F ++ ex).Nodup) (sub : ∀ y ∈ ex, y ∈ nx x) (all : ∀ y ∈ nx x, y ∈ F ++ ex) : Clo nx st (F ++ ex) (W ++ ex) := by
  have rx : ∀ y ∈ nx x, Rch nx st y := fun y hy => by
    rcases h.wf x (List.mem_append_right _ (List.mem_singleton.mpr rfl)) with e | e
    · exact .one (by rw [← e]; exact hy)
    · exact .more (h.snd x e) hy
  refine ⟨nd, fun y hy => ?_, fun y hy => ?_, fun y hy => ?_⟩
  · rcases List.mem_append.mp hy with hy | hy
    · exact h.snd y hy
    · exact rx y (sub y hy)
  · rcases List.mem_append.mp hy with hy | hy
    · exact (h.wf y (List.mem_append_left _ hy)).imp id (List.mem_append_left _)
    · exact .inr (List.mem_append_right _ hy)
  · by_cases e : y = x
    · rw [e]; exact .inr all
    · have old : y = st ∨ y ∈ F → y ∈ W ++ ex ∨ ∀ z ∈ nx y, z ∈ F ++ ex := fun hy => by
        rcases h.cl y hy with z | z
        · rcases List.mem_append.mp z with z | z
          · exact .inl (List.mem_append_left _ z)
          · exact absurd (List.mem_singleton.mp z) e
        · exact .inr fun w hw => List.mem_append_left _ (z w hw)
      rcases hy with hy | hy
      · exact old (.inl hy)
      · rcases List.mem_append.mp hy with hy | hy
        · exact old (.inr hy)
        · exact .inl (List.mem_append_right _ hy)
theorem Clo.start {nx : α → List α} {st : α} {F : List α} (nd : F.Nodup) (e : ∀ x, x ∈ F ↔ x ∈ nx st) : Clo nx st F (nx st) :=
  ⟨nd, fun x hx => .one ((e x).mp hx), fun x hx => .inr ((e x).mpr hx), fun x hx => by
    rcases hx with rfl | hx
    · exact .inr fun y hy => (e y).mpr hy
    · exact .inl ((e x).mp hx)⟩
structure Mid (F W ys : List α) (F1 W1 zs : List α) (ex : List α) : Prop where
  f : F1 = F ++ ex
  w : W1 = W ++ ex
  nd : (F ++ ex).Nodup
  sub : ∀ y ∈ ex, y ∈ ys
  all : ∀ y ∈ ys, y ∈ F ++ ex ∨ y ∈ zs
theorem Mid.old {F W ys F1 W1 zs ex : List α} {z : α} (h : Mid F W ys F1 W1 (z :: zs) ex) (hz : z ∈ F1) : Mid F W ys F1 W1 zs ex :=
  ⟨h.f, h.w, h.nd, h.sub, fun y hy => by
    rcases h.all y hy with a | a
    · exact .inl a
    · rcases List.mem_cons.mp a with rfl | a
      · exact .inl (by rw [← h.f]; exact hz)
      · exact .inr a⟩
theorem Mid.new {F W ys F1 W1 zs ex : List α} {z : α} (h : Mid F W ys F1 W1 (z :: zs) ex) (hz : z ∉ F1) (hy : z ∈ ys) : Mid F W ys (F1 ++ [z]) (W1 ++ [z]) zs (ex ++ [z]) := by
  refine ⟨by rw [h.f, List.append_assoc], by rw [h.w, List.append_assoc], ?_, fun y hy2 => ?_, fun y hy2 => ?_⟩
  · rw [← List.append_assoc, ← h.f, List.nodup_append]
    exact ⟨by rw [h.f]; exact h.nd, List.nodup_cons.mpr ⟨List.not_mem_nil, List.nodup_nil⟩, fun a ha b hb => by rw [List.mem_singleton.mp hb]; exact fun e => hz (e ▸ ha)⟩
  · rcases List.mem_append.mp hy2 with a | a
    · exact h.sub y a
    · rw [List.mem_singleton.mp a]; exact hy
  · rw [← List.append_assoc]
    rcases h.all y hy2 with a | a
    · exact .inl (List.mem_append_left _ a)
    · rcases List.mem_cons.mp a with rfl | a
      · exact .inl (List.mem_append_right _ (List.mem_singleton.mpr rfl))
      · exact .inr a
def cost (U F W : List α) : Nat := 2 * (U.length - F.length) + W.length
end
section
variable {α : Type} [DecidableEq α]
def Rfl (nx : α → List α) (a b : α) : Prop := a = b ∨ Rch nx a b
theorem Rfl.step {nx : α → List α} {a b c : α} (h : Rfl nx a b) (hc : c ∈ nx b) : Rfl nx a c := by
  rcases h with rfl | h
  · exact .inr (.one hc)
  · exact .inr (.more h hc)
theorem Rfl.trans {nx : α → List α} {a b c : α} (h1 : Rfl nx a b) (h2 : Rfl nx b c) : Rfl nx a c := by
  rcases h1 with rfl | h1
  · exact h2
  · rcases h2 with rfl | h2
    · exact .inr h1
    · exact .inr (h1.trans h2)
structure CloR (nx : α → List α) (st : α) (F W : List α) : Prop where
  nd : F.Nodup
  snd : ∀ x ∈ F, Rfl nx st x
  st : st ∈ F
  wf : ∀ x ∈ W, x ∈ F
  cl : ∀ x ∈ F, x ∈ W ∨ ∀ y ∈ nx x, y ∈ F
theorem CloR.start {nx : α → List α} {st : α} : CloR nx st [st] [st] := ⟨List.nodup_cons.mpr ⟨List.not_mem_nil, List.nodup_nil⟩, fun x h => .inl (List.mem_singleton.mp h).symm, List.mem_cons_self, fun x h => h, fun x h => .inl h⟩
theorem CloR.step {nx : α → List α} {st x : α} {F W ex : List α} (h : CloR nx st F (W ++ [x])) (nd : (F ++ ex).Nodup) (sub : ∀ y ∈ ex, y ∈ nx x) (all : ∀ y ∈ nx x, y ∈ F ++ ex) : CloR nx st (F ++ ex) (W ++ ex) := by
  have hx : x ∈ F := h.wf x (List.mem_append_right _ (List.mem_singleton.mpr rfl))
  refine ⟨nd, fun y hy => ?_, List.mem_append_left _ h.st, fun y hy => ?_, fun y hy => ?_⟩
  · rcases List.mem_append.mp hy with hy | hy
    · exact h.snd y hy
    · exact (h.snd x hx).step (sub y hy)
  · rcases List.mem_append.mp hy with hy | hy
    · exact List.mem_append_left _ (h.wf y (List.mem_append_left _ hy))
    · exact List.mem_append_right _ hy
  · by_cases e : y = x
    · rw [e]; exact .inr all
    · rcases List.mem_append.mp hy with hy | hy
      · rcases h.cl y hy with z | z
        · rcases List.mem_append.mp z with z | z
          · exact .inl (List.mem_append_left _ z)
          · exact absurd (List.mem_singleton.mp z) e
        · exact .inr fun w hw => List.mem_append_left _ (z w hw)
      · exact .inl (List.mem_append_right _ hy)
end
end DL
set_option Elab.async false
set_option linter.all false
set_option maxRecDepth 100000
set_option maxHeartbeats 4000000
namespace DL
open PySem PySem.Spec PyProof.Rows L2
def isLst : Sl → Bool
  | .dt (.lst _) => true
  | _ => false
def kpO : List Sl → List Sl → Bool
  | [], [] => true
  | s :: δ, s' :: δ' => (!s.isOwn || (s'.isOwn || isLst s')) && kpO δ δ'
  | _, _ => false
theorem kpO_at : ∀ {δ δ' : List Sl} {i : Nat} {s : Sl}, kpO δ δ' = true → δ[i]? = some s → s.isOwn = true → ∃ s', δ'[i]? = some s' ∧ (s'.isOwn = true ∨ ∃ ds, s' = .dt (.lst ds))
  | [], [], i, s, _, e, _ => by simp at e
  | [], _ :: _, _, _, h, _, _ => by cases h
  | _ :: _, [], _, _, h, _, _ => by cases h
  | s :: δ, s' :: δ', 0, t, h, e, io => by
    cases e
    have h : ((!s.isOwn || (s'.isOwn || isLst s')) && kpO δ δ') = true := h
    rw [Bool.and_eq_true, io] at h
    have h1 : (s'.isOwn || isLst s') = true := h.1
    rw [Bool.or_eq_true] at h1
    refine ⟨s', rfl, h1.imp id fun z => ?_⟩
    unfold isLst at z
    split at z
    · exact ⟨_, rfl⟩
    · cases z
  | s :: δ, s' :: δ', i + 1, t, h, e, io => by
    have h : ((!s.isOwn || (s'.isOwn || isLst s')) && kpO δ δ') = true := h
    rw [Bool.and_eq_true] at h
    exact kpO_at (δ := δ) (δ' := δ') (i := i) h.2 (by simpa using e) io
def tdThawL (t : TD) : TD := fun δ Q => t δ fun r δ' => (∃ ds, r = .ol ds ∧ tupDA ds = true) ∧ kpO δ δ' = true ∧ Q r δ
theorem thaw_resL {K : PySem.W.Frag} {B : Bg K} {H0 G0 H H' G G' : Hp} {σ : L2.St} {δ δ' : List Sl} (R : Rel K B H0 G0 H σ δ G) (R' : Rel K B H0 G0 H' σ δ' G') (fr : Fra B H H') {v : V} {ds : List D} (h : tupDA ds = true) (ho : kpO δ δ' = true) (ok : ResOk K B H0 H' σ δ' G' v (.ol ds)) : ResOk K B H0 H' σ δ (outG σ δ G') v (.ol ds) := by
  obtain ⟨⟨a, rfl, ga, vs, h1, h2⟩, _, k3⟩ := ok
  obtain ⟨n1, n2, n3⟩ := k3 rfl a rfl
  have no : ∀ i, ¬ Own σ δ i a := fun i ⟨ev, s, es, io⟩ => by
    obtain ⟨s', e', h'⟩ := kpO_at ho es io
    rcases h' with h' | ⟨xs, rfl⟩
    · exact n3 i ⟨ev, s', e', h'⟩
    · rcases R'.sl i _ e' with z | ⟨v2, ev2, ok2⟩
      · cases z
      · rw [ev] at ev2
        cases ev2
        cases (show Dd K G' (.ref a) (.lst xs) from ok2) with
        | lst h3 _ => rw [ga] at h3; cases h3
  refine ⟨⟨a, rfl, ?_, vs, h1, DdA.outG R R' fr ds vs h h2⟩, (fun z => nomatch z), fun _ b e => ?_⟩
  · rw [outG_out fun ⟨i, oa⟩ => no i oa]; exact ga
  · cases e; exact ⟨n1, n2, no⟩
theorem pd_thawL {X : Cx} {e : Expr} {t : TD} (h : PD X e t) : PD X e (tdThawL t) := by
  refine ⟨PE.weak h.pe fun σ H Q ⟨B, H0, G0, δ, G, R, q⟩ => ⟨B, H0, G0, δ, G, R, h.mono _ _ _ q fun r δ' q v H' G' R' sG fr ok => ?_⟩, fun δ Q Q' q w => h.mono _ _ _ q fun r δ' q => ⟨q.1, q.2.1, w _ _ q.2.2⟩⟩
  obtain ⟨⟨ds, rfl, ht⟩, hk, q⟩ := q
  obtain ⟨s2, R2⟩ := R.outG R' sG fr
  exact q v H' _ R2 s2 fr (thaw_resL R R' fr ht hk ok)
end DL
namespace DL
open PySem PySem.Spec PyProof.Rows L2
end DL
set_option Elab.async false
set_option linter.all false
set_option maxRecDepth 100000
set_option maxHeartbeats 4000000
namespace DL
open PySem PySem.Spec PyProof.Rows L2
end DL
namespace DL
open PySem PySem.Spec PyProof.Rows L2
end DL
set_option Elab.async false
set_option linter.all false
set_option maxRecDepth 100000
set_option maxHeartbeats 4000000
namespace DL
open PySem PySem.Spec PyProof.Rows L2
theorem FnX.never {P : Program} {w : World} {K : PySem.W.Frag} {mg : Str → Option Value} {base : Heap} {k n : Nat} {x : Str} {st : Stmt} {ps : List Str} (D : Dfn K mg x st ps) : FnX P w K mg base k x n fun _ _ => False := by
  obtain ⟨f, fd, F, hm, hb⟩ := D.ex
  exact ⟨⟨f, fd, ps, ⟨fun vs H Q E q => by obtain ⟨_, _, _, _, _, _, _, _, q⟩ := q; exact q.elim, fun A outer s H args us vs Q E _ _ _ _ q => by obtain ⟨_, _, _, _, _, _, _, _, q⟩ := q; exact q.elim⟩, hm, F.kp, hb⟩, fun rs Q Q' q _ => q.elim, fun rs Q q => q.elim⟩
end DL
set_option Elab.async false
set_option linter.all false
set_option maxRecDepth 100000
set_option maxHeartbeats 4000000
namespace DL
open PySem PySem.Spec PyProof.Rows L2
end DL
set_option Elab.async false
set_option linter.all false
set_option maxRecDepth 100000
set_option maxHeartbeats 4000000
namespace DL
open PySem PySem.Spec PyProof.Rows L2
end DL
set_option Elab.async false
set_option linter.all false
set_option maxRecDepth 100000
set_option maxHeartbeats 4000000
namespace DL
open PySem PySem.Spec PyProof.Rows L2
end DL
set_option Elab.async false
set_option linter.all false
set_option maxRecDepth 100000
set_option maxHeartbeats 4000000
namespace L2
open PySem PySem.Spec PyProof.Rows
end L2
namespace DL
open PySem PySem.Spec PyProof.Rows L2
end DL
set_option Elab.async false
set_option linter.all false
set_option maxRecDepth 100000
set_option maxHeartbeats 4000000
namespace DL
open PySem PySem.Spec PyProof.Rows L2
end DL
set_option Elab.async false
set_option linter.all false
set_option maxRecDepth 100000
set_option maxHeartbeats 4000000
namespace DL
open PySem PySem.Spec PyProof.Rows L2
end DL
set_option Elab.async false
set_option linter.all false
set_option maxRecDepth 100000
set_option maxHeartbeats 4000000
namespace DL
open PySem PySem.Spec PyProof.Rows L2
end DL
set_option Elab.async false
set_option linter.all false
set_option maxRecDepth 100000
set_option maxHeartbeats 4000000
namespace DL
open PySem PySem.Spec PyProof.Rows L2
end DL
set_option Elab.async false
set_option linter.all false
set_option maxRecDepth 100000
set_option maxHeartbeats 4000000
namespace PySem.SeqAt
open PySem PySem.Spec
end PySem.SeqAt
namespace DL
open PySem PySem.Spec PyProof.Rows L2
end DL
set_option Elab.async false
set_option linter.all false
set_option maxRecDepth 100000
set_option maxHeartbeats 4000000
namespace DL
open PySem PySem.Spec PyProof.Rows L2
end DL
set_option Elab.async false
set_option linter.all false
set_option maxRecDepth 100000
set_option maxHeartbeats 4000000
namespace DL
open PySem PySem.Spec PyProof.Rows L2
abbrev WD := Addr → List Str → List D → List Sl → Prop
abbrev TDAE := List Sl → (List Sl → List Sl → Prop) → WD → Prop
def MonoAE (t : TDAE) : Prop := ∀ δ (Q Q' : List Sl → List Sl → Prop) (W W' : WD), t δ Q W → (∀ r δ', Q r δ' → Q' r δ') → (∀ C ns ds δ', W C ns ds δ' → W' C ns ds δ') → t δ Q' W'
def tyAE (X : Cx) (t : TDAE) : TA := fun σ H Q => ∃ B H0 G0 δ G, Rel X.K B H0 G0 H σ δ G ∧ t δ (AftA X.K B H0 G0 H σ G Q) (exW X B H0 G0)
structure PDAE (X : Cx) (es : List Expr) (t : TDAE) : Prop where
  pa : PA X es (tyAE X t)
  mono : MonoAE t
abbrev TDIE := List Sl → (List D → List Sl → Prop) → WD → Prop
def MonoIE (t : TDIE) : Prop := ∀ δ (Q Q' : List D → List Sl → Prop) (W W' : WD), t δ Q W → (∀ b δ', Q b δ' → Q' b δ') → (∀ C ns ds δ', W C ns ds δ' → W' C ns ds δ') → t δ Q' W'
def tyIE (X : Cx) (t : TDIE) : TI := fun σ H R => ∃ B H0 G0 δ G, Rel X.K B H0 G0 H σ δ G ∧ t δ (AftI X.K B H0 G0 H σ G R) (exW X B H0 G0)
structure PDIE (X : Cx) (tg e : Expr) (t : TDIE) : Prop where
  pi : PI X tg e (tyIE X t)
  mono : MonoIE t
end DL
set_option Elab.async false
set_option linter.all false
set_option maxRecDepth 100000
set_option maxHeartbeats 4000000
namespace DL
open PySem PySem.Spec PyProof.Rows L2
end DL
set_option Elab.async false
set_option linter.all false
set_option maxRecDepth 100000
set_option maxHeartbeats 4000000
namespace PySem.W
open Lean Elab Tactic Meta PySem PySem.Calls PyProof.Rows PyProof.V PySem.Spec
end PySem.W
namespace DL
open PySem PySem.Spec PyProof.Rows L2
structure ShowT (ks : List (List Key)) (vs : List D) : Prop where
  plain : plainA vs = true
  nums : (py (.dT ks vs)).showable = true
  len : (py (.dT ks vs)).shown.length ≤ sizeLine
  depth : (py (.dT ks vs)).depth ≤ 100
  dicts : noLA vs = true
end DL
set_option Elab.async false
set_option linter.all false
set_option maxRecDepth 100000
set_option maxHeartbeats 4000000
namespace DL
open PySem PySem.Spec PyProof.Rows L2
end DL
set_option Elab.async false
set_option linter.all false
set_option maxRecDepth 100000
set_option maxHeartbeats 4000000
namespace DL
open PySem PySem.Spec PyProof.Rows L2
end DL
set_option Elab.async false
set_option linter.all false
set_option maxRecDepth 100000
set_option maxHeartbeats 4000000
namespace DL
open PySem PySem.Spec PyProof.Rows L2
end DL
set_option Elab.async false
set_option linter.all false
set_option maxRecDepth 100000
set_option maxHeartbeats 4000000
namespace DL
open PySem PySem.Spec PyProof.Rows L2
def scD : D → Prop
  | .non => True
  | .bl _ => True
  | .int _ => True
  | .str _ => True
  | _ => False
mutual
def avD (m : D) : D → Prop
  | .lst ds => D.lst ds ≠ m ∧ avA m ds
  | .tup ds => avA m ds
  | .dK ks ds => D.dK ks ds ≠ m ∧ avA m ds
  | .dT _ ds => avA m ds
  | .dL _ ds => avA m ds
  | .ins _ _ ds => avA m ds
  | _ => True
def avA (m : D) : List D → Prop
  | [] => True
  | d :: ds => avD m d ∧ avA m ds
end
def avS (m : D) : Sl → Prop
  | .dt d => avD m d
  | .ol ds => avA m ds
  | .oK _ ds => avA m ds
  | .oT _ ds => avA m ds
  | .oI _ _ _ ds => avA m ds
  | .oL _ ds => avA m ds
  | .xcp _ _ _ _ ds => avA m ds
  | .fn _ _ _ _ cap => ∀ (i : Nat) (d : D), cap[i]? = some (some d) → avD m d
  | .hd _ _ _ _ => False
  | _ => True
section
variable {K : PySem.W.Frag} {G : Hp}
theorem sc_det {v : V} {d d' : D} (f : scD d) (h : Dd K G v d) (h' : Dd K G v d') : d' = d := by
  cases h <;> first | (cases h'; rfl) | cases f
theorem scs_det : ∀ {vs : List V} {ds ds' : List D}, (∀ d ∈ ds, scD d) → DdA K G vs ds → DdA K G vs ds' → ds' = ds
  | _, [], ds', _, h, h' => by cases h; cases h'; rfl
  | _, d :: ds, ds', f, h, h' => by
    cases h with
    | cons h1 h2 =>
      cases h' with
      | cons h3 h4 => rw [sc_det (f d List.mem_cons_self) h1 h3, scs_det (fun x hx => f x (List.mem_cons_of_mem _ hx)) h2 h4]
theorem zip_inj {α β : Type} {ks ks' : List α} {xs xs' : List β} (h : ks.length = xs.length) (h' : ks'.length = xs'.length) (e : ks.zip xs = ks'.zip xs') : ks = ks' ∧ xs = xs' := by
  have e1 := congrArg (List.map Prod.fst) e
  have e2 := congrArg (List.map Prod.snd) e
  rw [List.map_fst_zip (Nat.le_of_eq h), List.map_fst_zip (Nat.le_of_eq h')] at e1
  rw [List.map_snd_zip (Nat.le_of_eq h.symm), List.map_snd_zip (Nat.le_of_eq h'.symm)] at e2
  exact ⟨e1, e2⟩
inductive Spl (K : PySem.W.Frag) (G : Hp) (a : Addr) : D → Prop
  | lst {vs : List V} {es : List D} : G a = some (.lst vs) → DdA K G vs es → (∀ d ∈ es, scD d) → Spl K G a (.lst es)
  | dK {ks : List Key} {vs : List V} {es : List D} : ks.length = vs.length → G a = some (.dK (ks.zip vs)) → DdA K G vs es → (∀ d ∈ es, scD d) → Spl K G a (.dK ks es)
theorem Spl.obj {a : Addr} {m : D} (S : Spl K G a m) : (∃ vs, G a = some (.lst vs)) ∨ ∃ kvs, G a = some (.dK kvs) := by
  cases S with
  | lst h _ _ => exact .inl ⟨_, h⟩
  | dK _ h _ _ => exact .inr ⟨_, h⟩
theorem Spl.not {a : Addr} {m : D} (S : Spl K G a m) {o : HO} (h : G a = some o) : (∃ vs, o = .lst vs) ∨ ∃ kvs, o = .dK kvs := by
  rcases S.obj with ⟨vs, e⟩ | ⟨kvs, e⟩
  · rw [e] at h; cases h; exact .inl ⟨_, rfl⟩
  · rw [e] at h; cases h; exact .inr ⟨_, rfl⟩
theorem Spl.tup {a b : Addr} {m : D} (S : Spl K G a m) {xs : List V} (h : SqD K G b xs) : SqD K (del G a) b xs := by
  rcases h with h | h
  · refine .inl ?_
    rw [del_ne fun e => ?_]
    · exact h
    · subst e
      rcases S.not h with ⟨_, z⟩ | ⟨_, z⟩ <;> cases z
  · exact .inr h
theorem Spl.other {a b : Addr} {m : D} (S : Spl K G a m) {o : HO} (h : G b = some o) (n1 : ∀ vs, o ≠ .lst vs) (n2 : ∀ kvs, o ≠ .dK kvs) : del G a b = some o := by
  rw [del_ne fun e => ?_]
  · exact h
  · subst e
    rcases S.not h with ⟨_, z⟩ | ⟨_, z⟩
    · exact n1 _ z
    · exact n2 _ z
mutual
theorem Dd.dropS {a : Addr} {m : D} (S : Spl K G a m) : ∀ (d : D) (v : V), avD m d → Dd K G v d → Dd K (del G a) v d
  | .non, _, _, h => by cases h; exact .non
  | .bl b, _, _, h => by cases h; exact .bl b
  | .int i, _, _, h => by cases h; exact .int i
  | .str x, _, _, h => by cases h; exact .str x
  | .lst ds, _, A, h => by
    rw [avD] at A
    cases h with
    | @lst b xs _ h1 h2 =>
      refine .lst ?_ (DdA.dropS S ds _ A.2 h2)
      rw [del_ne fun e => ?_]
      · exact h1
      · subst e
        cases S with
        | lst g1 g2 f =>
          rw [h1] at g1; cases g1
          rw [scs_det f g2 h2] at A
          exact A.1 rfl
        | dK _ g1 _ _ => rw [h1] at g1; cases g1
  | .tup ds, _, A, h => by
    rw [avD] at A
    cases h with | tup h1 h2 => exact .tup (S.tup h1) (DdA.dropS S ds _ A h2)
  | .dK ks ds, _, A, h => by
    rw [avD] at A
    cases h with
    | @dK b _ xs _ h0 h1 h2 =>
      refine .dK h0 ?_ (DdA.dropS S ds _ A.2 h2)
      rcases h1 with h1 | ⟨o, h1⟩
      · refine .inl ?_
        rw [del_ne fun e => ?_]
        · exact h1
        · subst e
          cases S with
          | lst g1 _ _ => rw [h1] at g1; cases g1
          | dK g0 g1 g2 f =>
            rw [h1] at g1
            injection g1 with g1
            injection g1 with g1
            obtain ⟨e1, e2⟩ := zip_inj h0 g0 g1
            subst e1; subst e2
            rw [scs_det f g2 h2] at A
            exact A.1 rfl
      · exact .inr ⟨o, S.other h1 (fun _ z => nomatch z) fun _ z => nomatch z⟩
  | .dT ks ds, _, A, h => by
    rw [avD] at A
    cases h with | dT h0 h1 h2 => exact .dT h0 (S.other h1 (fun _ z => nomatch z) fun _ z => nomatch z) (DdA.dropS S ds _ A h2)
  | .dL ks ds, _, A, h => by
    rw [avD] at A
    cases h with | dL h0 h1 h2 => exact .dL h0 (S.other h1 (fun _ z => nomatch z) fun _ z => nomatch z) (DdA.dropS S ds _ A h2)
  | .ins C ns ds, _, A, h => by
    rw [avD] at A
    cases h with | ins h0 h1 h2 => exact .ins h0 (S.other h1 (fun _ z => nomatch z) fun _ z => nomatch z) (DdA.dropS S ds _ A h2)
theorem DdA.dropS {a : Addr} {m : D} (S : Spl K G a m) : ∀ (ds : List D) (vs : List V), avA m ds → DdA K G vs ds → DdA K (del G a) vs ds
  | [], _, _, h => by cases h; exact .nil
  | d :: ds, _, A, h => by
    rw [avA] at A
    cases h with | cons h1 h2 => exact .cons (Dd.dropS S d _ A.1 h1) (DdA.dropS S ds _ A.2 h2)
end
end
structure Yng {K : PySem.W.Frag} (B : Bg K) (G0 : Hp) : Prop where
  fz : ∀ a o, G0 a = some o → ∃ ob u, o = .frz ob u
  bg : ∀ b c, (b, Cell.bag c) ∈ B → ∃ o, G0 c = some o
section
variable {K : PySem.W.Frag} {B : Bg K} {H0 G0 H G : Hp} {σ : L2.St} {δ : List Sl} {a : Addr} {m : D}
theorem Spl.free (S : Spl K G a m) (Y : Yng B G0) (R : Rel K B H0 G0 H σ δ G) : H0 a = none ∧ NotB B a ∧ (∀ i, ¬ Own σ δ i a) ∧ G0 a = none ∧ ∀ b c, (b, Cell.bag c) ∈ B → c ≠ a := by
  have g0 : G0 a = none := none_of fun o e => by
    obtain ⟨ob, u, rfl⟩ := Y.fz a o e
    rcases S.not (R.g0 _ _ e) with ⟨_, z⟩ | ⟨_, z⟩ <;> cases z
  obtain ⟨o, ho⟩ : ∃ o, G a = some o := by rcases S.obj with ⟨vs, e⟩ | ⟨vs, e⟩ <;> exact ⟨_, e⟩
  have nb : NotB B a := R.nob ho
  refine ⟨?_, nb, fun i oa => ?_, g0, fun b c hb e => ?_⟩
  · rcases R.gn a o ho with z | z
    · rw [g0] at z; cases z
    · cases e : H0 a with
      | none => rfl
      | some o2 =>
        rw [e] at z
        have e2 := R.ent a o2 e nb
        rw [R.sub a o ho] at e2
        cases e2
        rcases S.not ho with ⟨_, rfl⟩ | ⟨_, rfl⟩ <;> exact z.elim
  · rw [(R.own i a oa).2.1] at ho; cases ho
  · obtain ⟨o2, e2⟩ := Y.bg b c hb
    rw [e, g0] at e2; cases e2
theorem Rel.drop (R : Rel K B H0 G0 H σ δ G) (Y : Yng B G0) (S : Spl K G a m) (av : ∀ (i : Nat) (s : Sl), δ[i]? = some s → avS m s) : Rel K B H0 G0 H σ δ (DL.del G a) := by
  obtain ⟨h0, nb, no, g0, nc⟩ := S.free Y R
  have dn : ∀ {b : Addr}, G b = none → DL.del G a b = none := fun {b} h => none_of fun o e => by
    rw [(del_some e).2] at h; cases h
  refine ⟨fun b o e => R.sub b o (del_some e).2, fun b o e => ?_, R.ent, R.len, fun i s e => ?_, R.sep, fun i b ob => ⟨(R.own i b ob).1, dn (R.own i b ob).2.1, (R.own i b ob).2.2⟩, fun b c hb => ?_, fun b o e => R.gn b o (del_some e).2, R.sz, HdSl.none fun i s e => ?_⟩
  · rw [del_ne (ne_of_none e g0)]; exact R.g0 b o e
  · rcases R.sl i s e with z | ⟨v, ev, ok⟩
    · exact .inl z
    · refine .inr ⟨v, ev, ?_⟩
      have A := av i s e
      cases s with
      | no => trivial
      | hd _ _ _ _ => exact ok.elim
      | dt d => exact Dd.dropS S d v A ok
      | bag => exact ok
      | cnt => exact ok
      | tb _ _ => exact ok
      | xcp x dd C ns ds =>
        obtain ⟨e1, xs, h1, h2, h3⟩ := ok
        exact ⟨e1, xs, h1, S.other h2 (fun _ z => nomatch z) (fun _ z => nomatch z), DdA.dropS S _ _ A h3⟩
      | fn f c q σm cap =>
        obtain ⟨h1, h2, h3, h4⟩ := ok
        refine ⟨h1, S.other h2 (fun _ z => ?_) (fun _ z => ?_), h3, fun i d e => ?_⟩
        · unfold LamX.CodeO at z; cases z
        · unfold LamX.CodeO at z; cases z
        · obtain ⟨u, e1, e2⟩ := h4 i d e
          exact ⟨u, e1, Dd.dropS S _ _ (A i d e) e2⟩
      | ol ds =>
        obtain ⟨b, eb, gb, vs, h1, h2⟩ := ok
        exact ⟨b, eb, dn gb, vs, h1, DdA.dropS S _ _ A h2⟩
      | oK ks ds =>
        obtain ⟨b, eb, gb, vs, h0, h1, h2⟩ := ok
        exact ⟨b, eb, dn gb, vs, h0, h1, DdA.dropS S _ _ A h2⟩
      | oT ks ds =>
        obtain ⟨b, eb, gb, vs, h0, h1, h2⟩ := ok
        exact ⟨b, eb, dn gb, vs, h0, h1, DdA.dropS S _ _ A h2⟩
      | oI x0 C ks ds =>
        obtain ⟨b, eb, gb, ex, dx, vs, h0, h1, h2⟩ := ok
        exact ⟨b, eb, dn gb, ex, dx, vs, h0, h1, DdA.dropS S _ _ A h2⟩
      | oL x0 ds =>
        obtain ⟨b, eb, gb, ex, vs, h1, h2⟩ := ok
        exact ⟨b, eb, dn gb, ex, vs, h1, DdA.dropS S _ _ A h2⟩
  · have z := R.bag b c hb
    cases c with
    | bag c =>
      obtain ⟨x, m2, i, ns, h1, h2, h3, h4⟩ := z
      refine ⟨x, m2, i, ns, h1, dn h2, ?_, h4⟩
      have ne := nc b c hb
      rcases h3 with h3 | ⟨o, h3⟩
      · exact .inl (by rw [del_ne ne]; exact h3)
      · exact .inr ⟨o, by rw [del_ne ne]; exact h3⟩
    | cnt =>
      obtain ⟨k, h1, h2⟩ := z
      exact ⟨k, h1, dn h2⟩
    | tab q =>
      obtain ⟨⟨ps, h1, h2, h3⟩, h4⟩ := z
      refine ⟨⟨ps, h1, h2, fun pos cv y => ?_⟩, dn h4⟩
      obtain ⟨c, e1, e2⟩ := h3 pos cv y
      refine ⟨c, e1, S.other e2 (fun _ z => ?_) fun _ z => ?_⟩
      · unfold LamX.CodeO at z; cases z
      · unfold LamX.CodeO at z; cases z
  · have A := av i s e
    cases s <;> first | rfl | exact A.elim
end
def tyY (X : Cx) (t : TDS) : TS := fun D σ H => ∃ B H0 G0 δ G, Yng B G0 ∧ Rel X.K B H0 G0 H σ δ G ∧ t (endsOf X B H0 G0 D) δ
structure PDY (X : Cx) (st : Stmt) (t : TDS) : Prop where
  ps : PS X st (tyY X t)
  mono : MonoS t
structure PDYs (X : Cx) (sts : List Stmt) (t : TDS) : Prop where
  ps : PSs X sts (tyY X t)
  mono : MonoS t
section
variable {X : Cx} {e c tg : Expr} {st : Stmt} {sts sa sb body : List Stmt} {pos p : Pos} {uc : TDT} {t u tb : TDS}
theorem pdy_of (h : PDS X st t) : PDY X st t := ⟨PS.weak h.ps fun D σ H ⟨B, H0, G0, δ, G, _, R, q⟩ => ⟨B, H0, G0, δ, G, R, q⟩, h.mono⟩
theorem pdys_of (h : PDSs X sts t) : PDYs X sts t := ⟨PSs.weak h.ps fun D σ H ⟨B, H0, G0, δ, G, _, R, q⟩ => ⟨B, H0, G0, δ, G, R, q⟩, h.mono⟩
theorem pdys_cons (h : PDY X st t) (k : PDYs X sts u) : PDYs X (st :: sts) (tdSeq t u) := by
  refine ⟨PSs.weak (pss_cons h.ps k.ps) fun D σ H ⟨B, H0, G0, δ, G, y, R, q⟩ => ⟨B, H0, G0, δ, G, y, R, h.mono { endsOf X B H0 G0 D with nx := fun δ' => u (endsOf X B H0 G0 D) δ' } (endsOf X B H0 G0 { D with nx := tyY X u D }) _ ⟨fun δ' q σ' H' G' R' => ⟨B, H0, G0, δ', G', y, R', q⟩, fun _ _ q => q, fun _ q => q, fun _ q => q, fun _ _ _ _ q => q⟩ q⟩,
    fun D D' δ w q => h.mono { D with nx := fun δ' => u D δ' } { D' with nx := fun δ' => u D' δ' } _ ⟨fun δ' q => k.mono _ _ _ w q, w.rt, w.bk, w.ct, w.ex⟩ q⟩
theorem pdys_one (h : PDY X st t) : PDYs X [st] t := ⟨pss_one h.ps, h.mono⟩
theorem pdy_for {ua : TDA} {vs : List Nat} {g : TDG} {pos2 : Pos} (hp : PassesOwn (model X.prog X.w) X.A X.env X.xe) (hc : X.calm = true) (hr : Gl X "range") (hm : X.mg "range" = none) (h : PDA X [e] ua) (hg : PDG X tg vs g) (hb : PDYs X body tb)
    (hst : starEach [e] X.env = [(false, eval e X.env)] := by rfl) (hs : ∀ x, foldedSetIterable (.Call (.Name "range" p) [e] [] pos) X.env x = pure x := by intro _; rfl) :
    PDY X (.For tg (.Call (.Name "range" p) [e] [] pos) body [] pos2) (tdFor (tdRng1 ua) g tb) := by
  refine ⟨PS.weak (ps_for hp hc (pi_range1 (tg := tg) hr hm h.pa hst) hg.pg hb.ps hs) fun D σ H ⟨B, H0, G0, δ, G, y, R, q⟩ => ?_, fun D D' δ w q => (pdi_rng1 (tg := tg) (p := p) (pos := pos) hr hm h hst).mono _ _ _ q fun xs δ' q => forD_mono hg.mono hb.mono w xs δ' q⟩
  refine ⟨B, H0, G0, δ, G, R, h.mono _ _ _ q fun rs δ1 q ws H1 G1 R1 s1 f1 oks => ?_⟩
  split at q
  case h_2 => exact q.elim
  rename_i j
  obtain ⟨v, rfl, hd⟩ := arg1 oks
  cases hd
  refine ⟨_, rfl, q.1, q.2.1, ?_⟩
  have q := q.2.2
  generalize hxs : zs 0 j.toNat = xs at q
  have it : ∀ Gx, ItOk X.K Gx (Itr 0 j.toNat) xs := fun Gx => hxs ▸ itOk_rng 0 _
  refine ⟨fun i m σ' H' => i + m = xs.length ∧ ∃ δ' G', Rel X.K B H0 G0 H' σ' δ' G' ∧ forD g tb (endsOf X B H0 G0 D) (xs.drop i) δ', ⟨xs.length, by omega, δ1, G1, R1, by simpa using q⟩, fun i m σ' H' hW => ?_⟩
  obtain ⟨em, δ', G', R', q'⟩ := hW
  obtain ⟨each, stop⟩ := it G' B H0 G0 H' σ' δ' G' R' (Same.refl _)
  by_cases hi' : i < xs.length
  · obtain ⟨go, yld⟩ := each i xs[i] (List.getElem?_eq_getElem hi')
    rw [List.drop_eq_getElem_cons hi'] at q'
    refine .inr ⟨go, fun σ2 H2 => ∃ δ2 G2, Rel X.K B H0 G0 H2 σ2 δ2 G2 ∧ forD g tb (endsOf X B H0 G0 D) (xs.drop (i + 1)) δ2, fun σ2 H2 ⟨δ2, G2, R2, q2⟩ => ⟨m - 1, by omega, by omega, δ2, G2, R2, q2⟩, fun x H3 yl => ?_⟩
    obtain ⟨G3, R3, s3, f3, hd⟩ := yld x H3 yl
    refine ⟨B, H0, G0, δ', G3, xs[i], R3, hd, hg.mono _ _ _ _ q' fun δ4 q4 σ4 _ R4 => ⟨B, H0, G0, δ4, G3, y, R4, hb.mono _ _ _ ?_ q4⟩⟩
    exact ⟨fun δ5 q5 σ5 H5 G5 R5 => ⟨δ5, G5, R5, q5⟩, fun r δ5 q5 v σ5 H5 G5 R5 ok => q5 v σ5 H5 G5 R5 ok, fun δ5 q5 σ5 H5 G5 R5 => q5 σ5 H5 G5 R5, fun δ5 q5 σ5 H5 G5 R5 => ⟨δ5, G5, R5, q5⟩, fun C ns ds δ5 q5 σ5 H5 G5 dd xs R5 => q5 σ5 H5 G5 dd xs R5⟩
  · have ei : i = xs.length := by omega
    subst ei
    rw [List.drop_length] at q'
    exact .inl ⟨stop, q' σ' H' G' R'⟩
end
def killD (ks : List Nat) (δ : List Sl) : List Sl := ks.foldl (fun δ i => δ.set i .no) δ
theorem Rel.kill {K : PySem.W.Frag} {B : Bg K} {H0 G0 H G : Hp} {σ : L2.St} : ∀ (ks : List Nat) {δ : List Sl}, Rel K B H0 G0 H σ δ G → Rel K B H0 G0 H σ (killD ks δ) G
  | [], _, R => R
  | k :: ks, _, R => Rel.kill ks (R.reslot (i := k) rfl (.inl rfl))
end DL
set_option Elab.async false
set_option linter.all false
set_option maxRecDepth 100000
set_option maxHeartbeats 4000000
namespace DL
open PySem PySem.Spec PyProof.Rows L2
section
variable {K : PySem.W.Frag} {B : Bg K} {H0 G0 H G : Hp} {σ : L2.St} {δ : List Sl}
theorem Rel.junk (R : Rel K B H0 G0 H σ δ G) {j : Nat} (hj : δ[j]? = some .no) (v : Option V) : Rel K B H0 G0 H (σ.set j v) δ G := by
  have ne : ∀ {i : Nat} {s : Sl}, δ[i]? = some s → s ≠ .no → j ≠ i := fun {i s} e n z => by
    subst z; rw [hj] at e; cases e; exact n rfl
  have own : ∀ {i : Nat} {a : Addr}, Own (σ.set j v) δ i a → Own σ δ i a := fun {i a} ⟨e, s, e2, io⟩ => by
    rw [List.getElem?_set_ne (ne e2 fun z => by subst z; cases io)] at e
    exact ⟨e, s, e2, io⟩
  refine ⟨R.sub, R.g0, R.ent, by rw [List.length_set]; exact R.len, fun i s e => ?_, fun i k a h1 h2 => R.sep i k a (own h1) (own h2), fun i a oa => R.own i a (own oa), R.bag, R.gn, R.sz, fun i x sh bs dss e => ?_⟩
  · by_cases hs : s = .no
    · subst hs; exact .inl rfl
    · rcases R.sl i s e with z | ⟨u, eu, ok⟩
      · exact .inl z
      · exact .inr ⟨u, by rw [List.getElem?_set_ne (ne e hs)]; exact eu, ok⟩
  · obtain ⟨h1, h2⟩ := R.hd i x sh bs dss e
    exact ⟨by rw [List.getElem?_set_ne (ne e fun z => nomatch z)]; exact h1, h2⟩
end
theorem killD_len : ∀ (ks : List Nat) (δ : List Sl), (killD ks δ).length = δ.length
  | [], _ => rfl
  | k :: ks, δ => (killD_len ks (δ.set k .no)).trans List.length_set
theorem killD_no : ∀ (ks : List Nat) {δ : List Sl} {j : Nat}, δ[j]? = some .no → (killD ks δ)[j]? = some .no
  | [], _, _, h => h
  | k :: ks, δ, j, h => killD_no ks (by
    by_cases e : k = j
    · subst e
      rw [List.getElem?_set_self (List.getElem?_eq_some_iff.mp h).1]
    · rw [List.getElem?_set_ne e]; exact h)
end DL
set_option Elab.async false
set_option linter.all false
set_option maxRecDepth 100000
set_option maxHeartbeats 4000000
namespace DL
open PySem PySem.Spec PyProof.Rows L2
theorem PSs.lk {X : Cx} {sts : List Stmt} {t : TS} (h : PSs X sts t) : PSs X sts (fun D σ H => ∃ c xs, H c = some (.lst xs) ∧ ∀ od, t D σ (upd H c (.frz od (.lst xs)))) := ⟨fun pins s σ H D I ⟨c, xs, hc, q⟩ => by
  obtain ⟨od, I2⟩ := I.lock hc trivial
  exact h.run pins s σ _ D I2 (q od)⟩
theorem pure_lawY {X : Cx} {K : PySem.W.Frag} {N : List Str} {i : Nat} {tR : TDS} {vs : List V} {H : Hp} {Q : VK} {E : XK} (hX : X.K = K) (mono : MonoS tR) (hi : i < N.length) (h1 : 1 ≤ N.length) (hR : tR { nx := fun _ => False, rt := fun r _ => r = .dt (.bl true) } ((List.replicate N.length Sl.no).set i .bag)) (h : spLaw K vs H Q E) :
    (tSeq (tAsg (tCall (spBag K) [] E0 (tCons (tVar 0) tNil)) (gName i)) (fun D σ H => ∃ c xs, H c = some (.lst xs) ∧ ∀ od, HSz (upd H c (.frz od (.lst xs))) → tyY X tR D σ (upd H c (.frz od (.lst xs))))) { nx := fun _ H2 => Q .non H2, rt := Q } (L2.start N vs) H := by
  subst hX
  obtain ⟨a, ns, rfl, hS, hl, hU, hT, q⟩ := h
  have e0 : (L2.start N [V.ref a])[0]? = some (some (.ref a)) := rfl
  refine ⟨_, e0, a, ns, rfl, hS, hl, fun Hx b c sm0 hb hc nbc eb0 ec0 => ⟨c, _, ec0, fun od sz => ?_⟩⟩
  let H' : Hp := upd Hx c (.frz od (.lst ((ns.map absI).map V.int)))
  have ec : H' c = some (.frz od (.lst ((ns.map absI).map V.int))) := upd_same
  have eb : H' b = some (bagL 0 1234567891 0 c) := by show upd Hx c _ b = _; rw [upd_ne nbc]; exact eb0
  have sm : Same H H' := fun x o e => by show upd Hx c _ x = _; rw [upd_ne (ne_of_none e hc)]; exact sm0 _ _ e
  let G : Hp := fun x => if x = c then H' c else none
  have gc : G c = H' c := if_pos rfl
  have gn : ∀ x, x ≠ c → G x = none := fun x hx => if_neg hx
  have nb : ∀ q, (b, q) ∉ TbK X.K := fun q z => by
    have := hT _ _ z
    rw [hb] at this
    cases this
  have nc : ∀ P q, (P, q) ∈ TbK X.K → P ≠ c := fun P q z e => by
    have := hT _ _ z
    rw [e, hc] at this
    cases this
  have len : ((L2.start N [V.ref a]).set i (some (.ref b))).length = N.length := by
    rw [List.length_set]
    unfold L2.start
    rw [List.length_append, List.length_map, List.length_replicate]
    show 1 + (N.length - 1) = N.length
    omega
  have only : ∀ (j : Nat) (s : Sl), ((List.replicate N.length Sl.no).set i .bag)[j]? = some s → s = .no ∨ (j = i ∧ s = .bag) := fun j s e => by
    rcases getSet e with ⟨z1, z2, z3⟩ | ⟨z1, z2⟩ | ⟨_, _, z⟩
    · exact .inr ⟨z1.symm, z3⟩
    · rw [List.getElem?_replicate] at z2
      split at z2
      · cases z2; exact .inl rfl
      · cases z2
    · exact z.elim
  have noOwn : ∀ j x, ¬ Own ((L2.start N [V.ref a]).set i (some (.ref b))) ((List.replicate N.length Sl.no).set i .bag) j x := fun j x ⟨_, s, e2, io⟩ => by
    rcases only j s e2 with rfl | ⟨_, rfl⟩ <;> cases io
  have R : Rel X.K (bgB X.K b c hU nb) H' G H' ((L2.start N [V.ref a]).set i (some (.ref b))) ((List.replicate N.length Sl.no).set i .bag) G := by
    refine ⟨fun x o e => ?_, Same.refl _, fun _ _ e _ => e, ?_, fun j s e => ?_, fun j k x h => (noOwn j x h).elim, fun j x h => (noOwn j x h).elim, fun b2 c2 e => ?_, fun _ _ e => .inl e, sz, HdSl.none fun j s e => by rcases only j s e with rfl | ⟨_, rfl⟩ <;> rfl⟩
    · by_cases hx : x = c
      · subst hx; rw [gc] at e; exact e
      · rw [gn x hx] at e; cases e
    · rw [len, List.length_set, List.length_replicate]
    · rcases only j s e with z | ⟨z1, z2⟩
      · exact .inl (by rw [z]; rfl)
      · subst z1; subst z2
        refine .inr ⟨.ref b, ?_, b, c, List.mem_cons_self, rfl⟩
        rw [List.getElem?_set_self]
        rw [List.length_set] at len
        rw [len]; exact hi
    · rcases bgL_in e with ⟨z1, z2⟩ | ⟨q2, z1, z2⟩
      · subst z1; subst z2
        refine ⟨0, 1234567891, 0, ns.map absI, eb, gn _ nbc, .inr ⟨od, gc.trans ec⟩, Int.le_refl _, fun n hn => ?_, by decide, by decide, Int.le_refl _, by rw [List.length_map]; exact hl⟩
        obtain ⟨m, _, rfl⟩ := List.mem_map.mp hn
        unfold absI
        split <;> omega
      · subst z2
        exact ⟨⟨#[], sm _ _ (hT _ _ z1), trivial, fun pos cv z => by
          have z : codeAmong pos [] = some cv := z
          simp [codeAmong] at z⟩, gn _ (nc _ _ z1)⟩
  have le : EndsD.le { nx := fun _ => False, rt := fun r _ => r = .dt (.bl true) } (endsOf X (bgB X.K b c hU nb) H' G { nx := fun _ H2 => Q .non H2, rt := Q }) :=
    ⟨fun _ z => z.elim, fun r δ z v σ2 H2 G2 _ ok => by
      cases (show r = .dt (.bl true) from z)
      cases ok.1
      exact q H2, fun _ z => z.elim, fun _ z => z.elim, fun _ _ _ _ z => z.elim⟩
  refine ⟨bgB X.K b c hU nb, H', G, _, G, ⟨fun x o e => ?_, fun b2 c2 e => ?_⟩, R, mono _ _ _ le hR⟩
  · by_cases hx : x = c
    · subst hx; rw [gc, ec] at e; cases e; exact ⟨_, _, rfl⟩
    · rw [gn x hx] at e; cases e
  · rcases bgL_in e with ⟨_, z2⟩ | ⟨q2, _, z2⟩
    · cases z2; exact ⟨_, gc.trans ec⟩
    · cases z2
theorem law_fnY {P : Program} {w : World} {K : PySem.W.Frag} {mg : Str → Option Value} {base : Heap} {st s1 : Stmt} {rest : List Stmt} {f : Addr} {fd : FuncData} {N : List Str} {k i : Nat} {x : Str}
    (F : Fun K "law" "law" st f fd) (S : FnScope N [x] (defScope st)) (hbod : defBody st = s1 :: rest) (hi : i < N.length) (h1 : 1 ≤ N.length)
    (hb : ∀ (cdv : Value) (A : Around) (outer : List Env) (s : Shared) (H : Hp) (E : XK), Ng A → Room k (A.deeper (envOfC "law" (defScope st) s.heap.objs.size f cdv)) →
      PS (cxOf CX0 P w K mg base N "law" (defScope st) f cdv A outer s H E).nox s1 (tAsg (tCall (spBag K) [] E0 (tCons (tVar 0) tNil)) (gName i)) ∧
      ∃ tR, PDYs (cxOf CX0 P w K mg base N "law" (defScope st) f cdv A outer s H E).nox rest tR ∧ tR { nx := fun _ => False, rt := fun r _ => r = .dt (.bl true) } ((List.replicate N.length Sl.no).set i .bag)) :
    FnG P w K mg base (k + 1) f fd [x] (spLaw K) := by
  refine fun_okG F S (fun vs H Q E h => ?_) fun cdv A outer s H vs Q E gd hr want => ?_
  · obtain ⟨a, ns, rfl, _⟩ := h; rfl
  · obtain ⟨p1, tR, p2, q⟩ := hb cdv A outer s H E gd hr
    rw [hbod]
    exact ⟨_, pss_cons p1 (PSs.lk (PSs.sz p2.ps)), pure_lawY (X := (cxOf CX0 P w K mg base N "law" (defScope st) f cdv A outer s H E).nox) rfl p2.mono hi h1 q want⟩
end DL
set_option Elab.async false
set_option linter.all false
set_option maxRecDepth 100000
set_option maxHeartbeats 4000000
namespace DL
open PySem PySem.Spec PyProof.Rows L2
end DL
set_option Elab.async false
set_option linter.all false
set_option maxRecDepth 100000
set_option maxHeartbeats 4000000
namespace DL
open PySem PySem.Spec PyProof.Rows L2
mutual
def nLk : D → Prop
  | .lst ds => nLkA ds
  | .tup ds => nLkA ds
  | .dK _ ds => nLkA ds
  | .dT _ ds => nLkA ds
  | .dL _ _ => False
  | .ins _ _ ds => nLkA ds
  | _ => True
def nLkA : List D → Prop
  | [] => True
  | d :: ds => nLk d ∧ nLkA ds
end
theorem vals_strs {us : List Value} : ∀ {xs xs' : List V}, Vals xs us → Vals xs' us → (∀ x ∈ xs, ∃ s, x = V.str s) → (∀ x ∈ xs', ∃ s, x = V.str s) → xs = xs' := by
  induction us with
  | nil => intro xs xs' h h' _ _; cases h; cases h'; rfl
  | cons u us ih =>
    intro xs xs' h h' e e'
    cases h with
    | @cons x _ xs _ h1 h2 =>
      cases h' with
      | @cons x' _ xs' _ h3 h4 =>
        obtain ⟨s, rfl⟩ := e x List.mem_cons_self
        obtain ⟨s', rfl⟩ := e' x' List.mem_cons_self
        obtain ⟨t, ht⟩ := (show ∃ t, u = Value.str s t from h1)
        obtain ⟨t', ht'⟩ := (show ∃ t, u = Value.str s' t from h3)
        rw [ht] at ht'
        cases ht'
        rw [ih h2 h4 (fun y hy => e y (List.mem_cons_of_mem _ hy)) fun y hy => e' y (List.mem_cons_of_mem _ hy)]
section
variable {K : PySem.W.Frag} {G : Hp}
theorem sqC_det {a : Addr} {xs xs' : List V} (h : SqT K (fun _ => none) a xs) (h' : SqT K (fun _ => none) a xs') (e : ∀ x ∈ xs, ∃ s, x = V.str s) (e' : ∀ x ∈ xs', ∃ s, x = V.str s) : xs = xs' := by
  rcases h with (h | ⟨_, h⟩) | ⟨o, its, n, h1, _, h3, _, h5⟩
  · cases h
  · cases h
  rcases h' with (h' | ⟨_, h'⟩) | ⟨o', its', n', k1, _, k3, _, k5⟩
  · cases h'
  · cases h'
  rw [h1] at k1; cases k1
  rw [h3] at k3; cases k3
  exact vals_strs h5 k5 e e'
theorem sqC_look {a : Addr} {xs : List V} (h : SqT K (fun _ => none) a xs) : ∃ o, K.lookup a = some o := by
  rcases h with (h | ⟨_, h⟩) | ⟨o, _, _, h1, _⟩
  · cases h
  · cases h
  · exact ⟨o, h1⟩
theorem sqD_det (kh : ∀ a o, G a = some o → K.lookup a = none) {a : Addr} {xs xs' : List V} (h : SqD K G a xs) (h' : SqD K G a xs') : xs = xs' := by
  rcases h with h | ⟨h, e⟩
  · rcases h' with h' | ⟨h', _⟩
    · rw [h] at h'; cases h'; rfl
    · obtain ⟨o, z⟩ := sqC_look h'
      rw [kh _ _ h] at z; cases z
  · rcases h' with h' | ⟨h', e'⟩
    · obtain ⟨o, z⟩ := sqC_look h
      rw [kh _ _ h'] at z; cases z
    · exact sqC_det h h' e e'
theorem sqD_no (kh : ∀ a o, G a = some o → K.lookup a = none) {a : Addr} {xs : List V} {o : HO} (h : SqD K G a xs) (ho : G a = some o) : o = .tup xs := by
  rcases h with h | ⟨h, _⟩
  · rw [h] at ho; cases ho; rfl
  · obtain ⟨o', z⟩ := sqC_look h
    rw [kh _ _ ho] at z; cases z
mutual
theorem Dd.det (kh : ∀ a o, G a = some o → K.lookup a = none) : ∀ (d : D) (v : V) (d' : D), nLk d → nLk d' → Dd K G v d → Dd K G v d' → d = d'
  | .non, _, d', _, _, h, h' => by cases h; cases h'; rfl
  | .bl _, _, d', _, _, h, h' => by cases h; cases h'; rfl
  | .int _, _, d', _, _, h, h' => by cases h; cases h'; rfl
  | .str _, _, d', _, _, h, h' => by cases h; cases h'; rfl
  | .lst ds, _, d', n, n', h, h' => by
    cases h with
    | lst h1 h2 =>
      cases h' with
      | lst k1 k2 =>
        rw [h1] at k1; cases k1
        rw [nLk] at n n'
        rw [DdA.det kh ds _ _ n n' h2 k2]
      | tup k1 _ => have z := sqD_no kh k1 h1; cases z
      | dK _ k1 _ => rcases k1 with z | ⟨_, z⟩ <;> (rw [h1] at z; cases z)
      | dT _ k1 _ => rw [h1] at k1; cases k1
      | dL _ k1 _ => rw [h1] at k1; cases k1
      | ins _ k1 _ => rw [h1] at k1; cases k1
  | .tup ds, _, d', n, n', h, h' => by
    cases h with
    | tup h1 h2 =>
      cases h' with
      | lst k1 k2 => have z := sqD_no kh h1 k1; cases z
      | tup k1 k2 =>
        cases sqD_det kh h1 k1
        rw [nLk] at n n'
        rw [DdA.det kh ds _ _ n n' h2 k2]
      | dK _ k1 _ => rcases k1 with z | ⟨_, z⟩ <;> (have y := sqD_no kh h1 z; cases y)
      | dT _ k1 _ => have z := sqD_no kh h1 k1; cases z
      | dL _ k1 _ => have z := sqD_no kh h1 k1; cases z
      | ins _ k1 _ => have z := sqD_no kh h1 k1; cases z
  | .dK ks ds, _, d', n, n', h, h' => by
    cases h with
    | @dK _ _ xs _ h0 h1 h2 =>
      cases h' with
      | lst k1 k2 => rcases h1 with z | ⟨_, z⟩ <;> (rw [k1] at z; cases z)
      | tup k1 k2 => rcases h1 with z | ⟨_, z⟩ <;> (have y := sqD_no kh k1 z; cases y)
      | @dK _ ks' xs' _ k0 k1 k2 =>
        have e : ks.zip xs = ks'.zip xs' := by
          rcases h1 with z | ⟨o, z⟩
          · rcases k1 with y | ⟨o', y⟩
            · rw [z] at y; injection y with y; injection y
            · rw [z] at y; cases y
          · rcases k1 with y | ⟨o', y⟩
            · rw [z] at y; cases y
            · rw [z] at y; injection y with y; injection y with _ y; injection y
        obtain ⟨e1, e2⟩ := zip_inj h0 k0 e
        subst e1; subst e2
        rw [nLk] at n n'
        rw [DdA.det kh ds _ _ n n' h2 k2]
      | dT _ k1 _ => rcases h1 with z | ⟨_, z⟩ <;> (rw [k1] at z; cases z)
      | dL _ _ _ => rw [nLk] at n'; exact n'.elim
      | ins _ k1 _ => rcases h1 with z | ⟨_, z⟩ <;> (rw [k1] at z; cases z)
  | .dT ks ds, _, d', n, n', h, h' => by
    cases h with
    | dT h0 h1 h2 =>
      cases h' with
      | lst k1 k2 => rw [h1] at k1; cases k1
      | tup k1 k2 => have z := sqD_no kh k1 h1; cases z
      | dK _ k1 _ => rcases k1 with z | ⟨_, z⟩ <;> (rw [h1] at z; cases z)
      | dT k0 k1 k2 =>
        rw [h1] at k1
        injection k1 with k1
        injection k1 with _ k1
        injection k1 with k1
        obtain ⟨e1, e2⟩ := zip_inj h0 k0 k1
        subst e1; subst e2
        rw [nLk] at n n'
        rw [DdA.det kh ds _ _ n n' h2 k2]
      | dL _ k1 _ => rw [h1] at k1; cases k1
      | ins _ k1 _ => rw [h1] at k1; cases k1
  | .dL _ _, _, _, n, _, _, _ => by rw [nLk] at n; exact n.elim
  | .ins C ns ds, _, d', n, n', h, h' => by
    cases h with
    | ins h0 h1 h2 =>
      cases h' with
      | lst k1 k2 => rw [h1] at k1; cases k1
      | tup k1 k2 => have z := sqD_no kh k1 h1; cases z
      | dK _ k1 _ => rcases k1 with z | ⟨_, z⟩ <;> (rw [h1] at z; cases z)
      | dT _ k1 _ => rw [h1] at k1; cases k1
      | dL _ k1 _ => rw [h1] at k1; cases k1
      | ins k0 k1 k2 =>
        rw [h1] at k1
        injection k1 with k1
        injection k1 with e0 _ k1
        obtain ⟨e1, e2⟩ := zip_inj h0 k0 k1
        subst e0; subst e1; subst e2
        rw [nLk] at n n'
        rw [DdA.det kh ds _ _ n n' h2 k2]
theorem DdA.det (kh : ∀ a o, G a = some o → K.lookup a = none) : ∀ (ds : List D) (vs : List V) (ds' : List D), nLkA ds → nLkA ds' → DdA K G vs ds → DdA K G vs ds' → ds = ds'
  | [], _, ds', _, _, h, h' => by cases h; cases h'; rfl
  | d :: ds, _, ds', n, n', h, h' => by
    rw [nLkA] at n
    cases h with
    | cons h1 h2 =>
      cases h' with
      | cons k1 k2 =>
        rw [nLkA] at n'
        rw [Dd.det kh d _ _ n.1 n'.1 h1 k1, DdA.det kh ds _ _ n.2 n'.2 h2 k2]
end
end
mutual
def avX (m : D) : D → Prop
  | .lst ds => D.lst ds ≠ m ∧ avXA m ds
  | .tup ds => avXA m ds
  | .dK _ ds => avXA m ds
  | .dT _ ds => avXA m ds
  | .dL _ _ => False
  | .ins _ _ ds => avXA m ds
  | _ => True
def avXA (m : D) : List D → Prop
  | [] => True
  | d :: ds => avX m d ∧ avXA m ds
end
mutual
theorem av_nLk {m : D} : ∀ d : D, avX m d → nLk d
  | .non, _ => trivial
  | .bl _, _ => trivial
  | .int _, _ => trivial
  | .str _, _ => trivial
  | .lst ds, h => by rw [avX] at h; rw [nLk]; exact avA_nLk ds h.2
  | .tup ds, h => by rw [avX] at h; rw [nLk]; exact avA_nLk ds h
  | .dK _ ds, h => by rw [avX] at h; rw [nLk]; exact avA_nLk ds h
  | .dT _ ds, h => by rw [avX] at h; rw [nLk]; exact avA_nLk ds h
  | .dL _ _, h => by rw [avX] at h; exact h.elim
  | .ins _ _ ds, h => by rw [avX] at h; rw [nLk]; exact avA_nLk ds h
theorem avA_nLk {m : D} : ∀ ds : List D, avXA m ds → nLkA ds
  | [], _ => trivial
  | d :: ds, h => by rw [avXA] at h; exact ⟨av_nLk d h.1, avA_nLk ds h.2⟩
end
def avXS (m : D) : Sl → Prop
  | .dt d => avX m d
  | .ol ds => avXA m ds
  | .oK _ ds => avXA m ds
  | .oT _ ds => avXA m ds
  | .oI _ _ _ ds => avXA m ds
  | .oL _ ds => avXA m ds
  | .xcp _ _ _ _ ds => avXA m ds
  | .fn _ _ _ _ cap => ∀ (i : Nat) (d : D), cap[i]? = some (some d) → avX m d
  | .hd _ _ _ _ => False
  | _ => True
section
variable {K : PySem.W.Frag} {G : Hp}
structure SpX (K : PySem.W.Frag) (G : Hp) (a : Addr) (m : D) : Prop where
  at_ : ∃ vs, G a = some (.lst vs)
  dd : Dd K G (.ref a) m
  nl : nLk m
  kh : ∀ b o, G b = some o → K.lookup b = none
theorem SpX.other {a b : Addr} {m : D} (S : SpX K G a m) {o : HO} (h : G b = some o) (n1 : ∀ vs, o ≠ .lst vs) : del G a b = some o := by
  obtain ⟨vs, e⟩ := S.at_
  rw [del_ne fun z => by subst z; rw [e] at h; cases h; exact n1 _ rfl]
  exact h
theorem SpX.tup {a b : Addr} {m : D} (S : SpX K G a m) {xs : List V} (h : SqD K G b xs) : SqD K (del G a) b xs := by
  rcases h with h | h
  · exact .inl (S.other h fun _ z => nomatch z)
  · exact .inr h
mutual
theorem Dd.dropX {a : Addr} {m : D} (S : SpX K G a m) : ∀ (d : D) (v : V), avX m d → Dd K G v d → Dd K (del G a) v d
  | .non, _, _, h => by cases h; exact .non
  | .bl b, _, _, h => by cases h; exact .bl b
  | .int i, _, _, h => by cases h; exact .int i
  | .str x, _, _, h => by cases h; exact .str x
  | .lst ds, v, A, h => by
    have n := av_nLk _ A
    have h0 := h
    rw [avX] at A
    cases h with
    | @lst b xs _ h1 h2 =>
      refine .lst ?_ (DdA.dropX S ds _ A.2 h2)
      rw [del_ne fun e => ?_]
      · exact h1
      · subst e
        exact A.1 (Dd.det S.kh _ _ _ n S.nl h0 S.dd)
  | .tup ds, _, A, h => by
    rw [avX] at A
    cases h with | tup h1 h2 => exact .tup (S.tup h1) (DdA.dropX S ds _ A h2)
  | .dK ks ds, _, A, h => by
    rw [avX] at A
    cases h with
    | dK h0 h1 h2 => exact .dK h0 (h1.imp (fun z => S.other z fun _ y => nomatch y) fun ⟨o, z⟩ => ⟨o, S.other z fun _ y => nomatch y⟩) (DdA.dropX S ds _ A h2)
  | .dT ks ds, _, A, h => by
    rw [avX] at A
    cases h with | dT h0 h1 h2 => exact .dT h0 (S.other h1 fun _ z => nomatch z) (DdA.dropX S ds _ A h2)
  | .dL ks ds, _, A, h => by rw [avX] at A; exact A.elim
  | .ins C ns ds, _, A, h => by
    rw [avX] at A
    cases h with | ins h0 h1 h2 => exact .ins h0 (S.other h1 fun _ z => nomatch z) (DdA.dropX S ds _ A h2)
theorem DdA.dropX {a : Addr} {m : D} (S : SpX K G a m) : ∀ (ds : List D) (vs : List V), avXA m ds → DdA K G vs ds → DdA K (del G a) vs ds
  | [], _, _, h => by cases h; exact .nil
  | d :: ds, _, A, h => by
    rw [avXA] at A
    cases h with | cons h1 h2 => exact .cons (Dd.dropX S d _ A.1 h1) (DdA.dropX S ds _ A.2 h2)
end
end
section
variable {K : PySem.W.Frag} {B : Bg K} {H0 G0 H G : Hp} {σ : L2.St} {δ : List Sl} {a : Addr} {m : D}
theorem SpX.free (S : SpX K G a m) (Y : Yng B G0) (R : Rel K B H0 G0 H σ δ G) : H0 a = none ∧ NotB B a ∧ (∀ i, ¬ Own σ δ i a) ∧ G0 a = none ∧ ∀ b c, (b, Cell.bag c) ∈ B → c ≠ a := by
  obtain ⟨vs, ho⟩ := S.at_
  have g0 : G0 a = none := none_of fun o e => by
    obtain ⟨ob, u, rfl⟩ := Y.fz a o e
    rw [R.g0 _ _ e] at ho; cases ho
  have nb : NotB B a := R.nob ho
  refine ⟨?_, nb, fun i oa => ?_, g0, fun b c hb e => ?_⟩
  · rcases R.gn a _ ho with z | z
    · rw [g0] at z; cases z
    · cases e : H0 a with
      | none => rfl
      | some o2 =>
        rw [e] at z
        have e2 := R.ent a o2 e nb
        rw [R.sub a _ ho] at e2
        cases e2
        exact z.elim
  · rw [(R.own i a oa).2.1] at ho; cases ho
  · obtain ⟨o2, e2⟩ := Y.bg b c hb
    rw [e, g0] at e2; cases e2
theorem Rel.dropX (R : Rel K B H0 G0 H σ δ G) (Y : Yng B G0) (S : SpX K G a m) (av : ∀ (i : Nat) (s : Sl), δ[i]? = some s → avXS m s) : Rel K B H0 G0 H σ δ (DL.del G a) := by
  obtain ⟨h0, nb, no, g0, nc⟩ := S.free Y R
  have dn : ∀ {b : Addr}, G b = none → DL.del G a b = none := fun {b} h => none_of fun o e => by
    rw [(del_some e).2] at h; cases h
  refine ⟨fun b o e => R.sub b o (del_some e).2, fun b o e => ?_, R.ent, R.len, fun i s e => ?_, R.sep, fun i b ob => ⟨(R.own i b ob).1, dn (R.own i b ob).2.1, (R.own i b ob).2.2⟩, fun b c hb => ?_, fun b o e => R.gn b o (del_some e).2, R.sz, HdSl.none fun i s e => ?_⟩
  · rw [del_ne (ne_of_none e g0)]; exact R.g0 b o e
  · rcases R.sl i s e with z | ⟨v, ev, ok⟩
    · exact .inl z
    · refine .inr ⟨v, ev, ?_⟩
      have A := av i s e
      cases s with
      | no => trivial
      | hd _ _ _ _ => exact ok.elim
      | dt d => exact Dd.dropX S d v A ok
      | bag => exact ok
      | cnt => exact ok
      | tb _ _ => exact ok
      | xcp x dd C ns ds =>
        obtain ⟨e1, xs, h1, h2, h3⟩ := ok
        exact ⟨e1, xs, h1, S.other h2 (fun _ z => nomatch z), DdA.dropX S _ _ A h3⟩
      | fn f c q σm cap =>
        obtain ⟨h1, h2, h3, h4⟩ := ok
        refine ⟨h1, S.other h2 (fun _ z => ?_), h3, fun i d e => ?_⟩
        · unfold LamX.CodeO at z; cases z
        · obtain ⟨u, e1, e2⟩ := h4 i d e
          exact ⟨u, e1, Dd.dropX S _ _ (A i d e) e2⟩
      | ol ds =>
        obtain ⟨b, eb, gb, vs, h1, h2⟩ := ok
        exact ⟨b, eb, dn gb, vs, h1, DdA.dropX S _ _ A h2⟩
      | oK ks ds =>
        obtain ⟨b, eb, gb, vs, h0, h1, h2⟩ := ok
        exact ⟨b, eb, dn gb, vs, h0, h1, DdA.dropX S _ _ A h2⟩
      | oT ks ds =>
        obtain ⟨b, eb, gb, vs, h0, h1, h2⟩ := ok
        exact ⟨b, eb, dn gb, vs, h0, h1, DdA.dropX S _ _ A h2⟩
      | oI x0 C ks ds =>
        obtain ⟨b, eb, gb, ex, dx, vs, h0, h1, h2⟩ := ok
        exact ⟨b, eb, dn gb, ex, dx, vs, h0, h1, DdA.dropX S _ _ A h2⟩
      | oL x0 ds =>
        obtain ⟨b, eb, gb, ex, vs, h1, h2⟩ := ok
        exact ⟨b, eb, dn gb, ex, vs, h1, DdA.dropX S _ _ A h2⟩
  · have z := R.bag b c hb
    cases c with
    | bag c =>
      obtain ⟨x, m2, i, ns, h1, h2, h3, h4⟩ := z
      refine ⟨x, m2, i, ns, h1, dn h2, ?_, h4⟩
      have ne := nc b c hb
      rcases h3 with h3 | ⟨o, h3⟩
      · exact .inl (by rw [del_ne ne]; exact h3)
      · exact .inr ⟨o, by rw [del_ne ne]; exact h3⟩
    | cnt =>
      obtain ⟨k, h1, h2⟩ := z
      exact ⟨k, h1, dn h2⟩
    | tab q =>
      obtain ⟨⟨ps, h1, h2, h3⟩, h4⟩ := z
      refine ⟨⟨ps, h1, h2, fun pos cv y => ?_⟩, dn h4⟩
      obtain ⟨c, e1, e2⟩ := h3 pos cv y
      refine ⟨c, e1, S.other e2 fun _ z => ?_⟩
      unfold LamX.CodeO at z; cases z
  · have A := av i s e
    cases s <;> first | rfl | exact A.elim
end
def KH (K : PySem.W.Frag) (H : Hp) : Prop := ∀ a o, H a = some o → K.lookup a = none
theorem Inv.kh {X : Cx} {pins : List (Addr × Obj)} {σ : L2.St} {H : Hp} {s : Shared} (I : L2.Inv X pins σ H s) : KH X.K H := fun a o e => by
  cases z : X.K.lookup a with
  | none => rfl
  | some ob =>
    have h := (I.bs a ob (I.mod.kin a ob z)).2
    rw [e] at h; cases h
theorem PS.kh {X : Cx} {st : Stmt} {t : TS} (h : PS X st t) : PS X st (fun D σ H => KH X.K H → t D σ H) := ⟨fun pins s σ H D I q => h.run pins s σ H D I (q (Inv.kh I))⟩
theorem PSs.kh {X : Cx} {sts : List Stmt} {t : TS} (h : PSs X sts t) : PSs X sts (fun D σ H => KH X.K H → t D σ H) := ⟨fun pins s σ H D I q => h.run pins s σ H D I (q (Inv.kh I))⟩
end DL
set_option Elab.async false
set_option linter.all false
set_option maxRecDepth 100000
set_option maxHeartbeats 4000000
namespace DL
open PySem PySem.Spec PyProof.Rows L2
abbrev TSp := (List Sl → Prop) → List D → List Sl → Prop
def MonoSp (t : TSp) : Prop := ∀ (N N' : List Sl → Prop) (κ : List D) (δ : List Sl), (∀ δ', N δ' → N' δ') → t N κ δ → t N' κ δ
def tySp (X : Cx) (vg : List V) (t : TSp) : TS := fun D σ H => ∃ B H0 G0 δ G κ, Yng B G0 ∧ Rel X.K B H0 G0 H σ δ G ∧ DdA X.K G vg κ ∧ t (fun δ' => ∀ H' G', Rel X.K B H0 G0 H' σ δ' G' → DdA X.K G' vg κ → D.nx σ H') κ δ
structure PSp (X : Cx) (st : Stmt) (t : TSp) : Prop where
  ps : ∀ vg, PS X st (tySp X vg t)
  mono : MonoSp t
structure PSps (X : Cx) (sts : List Stmt) (t : TSp) : Prop where
  ps : ∀ vg, PSs X sts (tySp X vg t)
  mono : MonoSp t
structure ChOk (j : Nat) (es κ : List D) (δ : List Sl) : Prop where
  nl : nLkA es
  it : avXA (.lst es) es
  sl : ∀ s ∈ δ.set j .no, avXS (.lst es) s
  kp : avXA (.lst es) κ
section
variable {K : PySem.W.Frag} {B : Bg K} {H0 G0 H G : Hp} {σ : L2.St} {δ : List Sl} {vg : List V} {κ es : List D} {j : Nat}
theorem Rel.change (R : Rel K B H0 G0 H σ δ G) (Y : Yng B G0) (kh : KH K H) (e : δ[j]? = some (.dt (.lst es))) (ok : ChOk j es κ δ) (hA : DdA K G vg κ) :
    ∃ a vs, σ[j]? = some (some (.ref a)) ∧ H a = some (.lst vs) ∧ vs.length = es.length ∧ DdA K (DL.del G a) vs es ∧ ∀ (ws : List V) (fs : List D), ws.length ≤ sizeLine → DdA K (DL.del G a) ws fs →
      ∃ G', Rel K B H0 G0 (upd H a (.lst ws)) σ (δ.set j (.dt (.lst fs))) G' ∧ DdA K G' vg κ := by
  rcases R.sl j _ e with z | ⟨v, ev, hd⟩
  · cases z
  have hd : Dd K G v (.lst es) := hd
  cases hd with
  | @lst a vs _ h1 h2 =>
    have S : SpX K G a (.lst es) := ⟨⟨vs, h1⟩, .lst h1 h2, by rw [nLk]; exact ok.nl, fun b o eo => kh b o (R.sub b o eo)⟩
    have R1 : Rel K B H0 G0 H σ (δ.set j .no) G := R.reslot rfl (.inl rfl)
    obtain ⟨h0, nb, no, _, _⟩ := S.free Y R1
    have R2 := R1.dropX Y S fun i s es => ok.sl s (List.mem_of_getElem? es)
    have h3 := DdA.dropX S _ _ ok.it h2
    refine ⟨a, vs, ev, R.sub _ _ h1, h2.len, h3, fun ws fs lw hw => ?_⟩
    have R3 := R2.writeFree (o := .lst ws) h0 del_same nb no lw
    obtain ⟨R4, sG⟩ := R3.share upd_same del_same h0 nb no
    have R5 := R4.reslot (i := j) (s := .dt (.lst fs)) rfl (.inr ⟨.ref a, ev, .lst upd_same (DdA.mono sG _ _ hw)⟩)
    rw [List.set_set] at R5
    exact ⟨_, R5, DdA.mono sG _ _ (DdA.dropX S _ _ ok.kp hA)⟩
end
end DL
set_option Elab.async false
set_option linter.all false
set_option maxRecDepth 100000
set_option maxHeartbeats 4000000
namespace DL
open PySem PySem.Spec PyProof.Rows L2
section
variable {X : Cx} {CX : CXT} {k : Nat} {f C : Addr} {fd : FuncData} {ps : List Str} {sp : Sp} {E : L2.St → XK}
theorem run_fnSA {A : Around} {pins : List (Addr × Obj)} {σ : L2.St} {H : Hp} {s : Shared} {Q : VK} {us : List Value} {vs : List V} (F : FnOk X.prog X.w X.K X.mg X.base CX k f fd ps sp) (hr : Room k A) (e0 : Env0 X.prog X.w X.K X.mg X.base A X.stack s H) (hb : Binds X.K fd ps []) (hx : PassesAt CX X σ (E σ))
    (I : Inv X pins σ H s) (r : Vals vs us) (h : sp vs H Q (E σ)) : wpAny (model X.prog X.w) A (call (.ref f) us) (EP X pins σ Q) X.xe s := by
  have hl : us.length = ps.length := by rw [← r.length]; exact F.len _ _ _ _ h
  have b := hb s us I.kIn (by rw [List.append_nil]; exact hl)
  rw [List.append_nil] at b
  refine wpAny_call (codeAny_mono (F.run A X.stack s H ⟨us, []⟩ us vs Q (E σ) hr e0 b r h) fun r s' hq => ?_)
  cases r with
  | error e => exact hx pins H s e s' I hq
  | ok fl =>
    cases fl with
    | ret u => exact I.after hq
    | next => exact False.elim hq
    | brk => exact False.elim hq
    | cont => exact False.elim hq
def rIxE (C : Addr) (sp : Sp) (E : XK) : R2 := fun x y H Q => ∃ a dx fs, x = .ref a ∧ H a = some (.ins C dx fs) ∧ sp [x, y] H Q E
theorem pe_ixOE {a b : Expr} {pos : Pos} {ta tb : TE} (F : FnOk X.prog X.w X.K X.mg X.base CX k f fd ps sp) (hm : Meth X.K C "__getitem__" f) (hfn : PySem.W.fnIn X.K f = true) (hb : Binds X.K fd ps []) (hr : Room (k + 1) X.A) (hx : ∀ σ, PassesAt CX X σ (E σ)) (ha : PE X a ta) (hb2 : PE X b tb)
    (hsl : ∀ x i, subscripted b true (.ref x) i = runValue (.builtin "lifetime.subscript" ⟨[.ref x, i], []⟩) := by intro x i; with_unfolding_all rfl) : PE X (.Subscript a b pos) (fun σ H Q => tOp (rIxE C sp (E σ)) ta tb σ H Q) := by
  refine ⟨fun pins s σ H Q I h => ?_⟩
  refine Subscript_ (binT ha hb2 I h fun v u s2 x y H2 I2 rx ry q => ?_)
  obtain ⟨a', dx, fs, rfl, hh, q⟩ := q
  cases (show v = Value.ref a' from rx)
  obtain ⟨mA, J, _⟩ := ins_get I2.hok hh
  obtain ⟨od, J, _⟩ := J.look
  obtain ⟨m, hF⟩ := I2.fr
  exact PySem.W.sub_K hF I2.ok.mod.kin J hm.at_ hfn hm.fn (run_fnSA (us := [.ref a', u]) (vs := [.ref a', y]) F hr.in1 I2.env0.in1 hb (hx σ) I2 (.cons rfl (.cons ry .nil)) q) (hsl _ _)
end
def tdIxE (C : Addr) (t : TFE) (ta tb : TD) : TDE := fun δ Q W => ta δ fun r δ1 => match fz r with
  | some (.ins C' ns vs) => C' = C ∧ tb δ1 fun r2 δ2 => match fz r2 with
    | some e => t [.dt (.ins C' ns vs), .dt e] (fun r => Q r δ2) (fun C ns ds => W C ns ds δ2)
    | none => False
  | _ => False
section
variable {X : Cx} {a b : Expr} {ta tb : TD} {C : Addr} {pos : Pos}
theorem pde_ixO {t : TFE} {k : Nat} (M : MthE X.prog X.w X.K X.mg X.base k C "__getitem__" 2 t) (hfn : ∀ f, Meth X.K C "__getitem__" f → PySem.W.fnIn X.K f = true) (hr : Room (k + 1) X.A) (ha : PD X a ta) (hb : PD X b tb)
    (hsl : ∀ x i, subscripted b true (.ref x) i = runValue (.builtin "lifetime.subscript" ⟨[.ref x, i], []⟩) := by intro x i; with_unfolding_all rfl) : PDE X (.Subscript a b pos) (tdIxE C t ta tb) := by
  obtain ⟨f, fd, ps, F, c, hm, hbd⟩ := M.ex
  refine ⟨PE.weak (pe_ixOE (E := WE (WM X)) F hm (hfn f hm) hbd hr (fun σ => passAt (takes_WM X) σ) ha.pe hb.pe hsl) fun σ H Q ⟨B, H0, G0, δ, G, R, q⟩ => ?_, fun δ Q Q' W W' q w w' => ha.mono _ _ _ q fun r δ' q => ?_⟩
  · refine ev_data ha.mono (kk := fun d δ1 => match d with
      | .ins C' ns vs => C' = C ∧ tb δ1 fun r2 δ2 => match fz r2 with
        | some e => t [.dt (.ins C' ns vs), .dt e] (fun r => Aft X.K B H0 G0 H σ G Q r δ2) (fun C ns ds => exW X B H0 G0 C ns ds δ2)
        | none => False
      | _ => False) R (ha.mono _ _ _ q fun r δ' q => ?_) fun d δ1 v H1 G1 R1 s1 f1 hd hq => ?_
    · cases er : fz r with
      | none => rw [er] at q; exact q
      | some d => rw [er] at q; cases d <;> first | exact q | exact q.elim
    · split at hq
      · rename_i C2 ns ds
        obtain ⟨ec, q2⟩ := hq
        subst ec
        refine ev_data hb.mono (kk := fun e δ2 => t [.dt (.ins C2 ns ds), .dt e] (fun r => Aft X.K B H0 G0 H σ G Q r δ2) (fun C ns ds => exW X B H0 G0 C ns ds δ2)) R1 (hb.mono _ _ _ q2 fun r δ' q => ?_) fun e δ2 u H2 G2 R2 s2 f2 he hq2 => ?_
        · cases er : fz r with
          | none => rw [er] at q; exact q
          | some d => rw [er] at q; exact q
        have hd2 := Dd.mono s2 _ _ hd
        cases hd2 with
        | @ins a' _ dx _ xs _ h0 h1 h2 =>
          refine ⟨a', dx, _, rfl, R2.sub _ _ h1, ?_⟩
          show spE X.K 2 t [.ref a', u] H2 Q (WE (WM X) σ)
          refine ⟨rfl, B, G2, [.dt (.ins _ ns ds), .dt e], R2.sub, R2.bag, R2.sz, ⟨.ins h0 h1 h2, he, trivial⟩, M.mono _ _ _ _ _ hq2 (fun r q v H' G' k => ?_) fun C ns ds q H' G' dd xs k hl hd hA => ?_⟩
          · obtain ⟨R3, ok⟩ := R2.call k
            exact q v H' G' R3 ((s1.trans s2).trans k.gg) ((f1.trans f2).trans k.fra) ok
          · have kk : RetOk X.K B H2 G2 H' G' .non (.dt .non) := ⟨k.gg, k.gh, k.bag, k.fra, k.sz, k.gn, .non, fun z => (nomatch z), fun z => (nomatch z)⟩
            obtain ⟨R3, _⟩ := R2.call kk
            obtain ⟨n1, n2, n3⟩ := R2.newOwn k.dn
            exact q σ H' G' dd xs R3 hl hd n1 k.gd n2 n3 hA
      · exact hq.elim
  · cases er : fz r with
    | none => rw [er] at q; exact q
    | some d =>
      rw [er] at q
      cases d <;> first | exact q.elim | skip
      obtain ⟨h1, h2⟩ := q
      refine ⟨h1, hb.mono _ _ _ h2 fun r2 δ2 q => ?_⟩
      cases er2 : fz r2 with
      | none => rw [er2] at q; exact q
      | some e =>
        rw [er2] at q
        exact M.mono _ _ _ _ _ q (fun r q => w _ _ q) fun C ns ds q => w' _ _ _ _ q
end
def endE_ (i : Nat) (x : Addr) (ds0 : List DL.D) (D : EndsD) : List Sl → Prop := fun δ => δ[i]? = some (.oL x ds0) ∧ D.nx δ
def forLE (i : Nat) (x : Addr) (ds0 : List DL.D) (g : TDG) (tb : TDS) (D : EndsD) : Nat → List DL.D → List Sl → Prop
  | _, [], δ => endE_ i x ds0 D δ
  | n, d :: ds, δ => δ[i]? = some (.oL x ds0) ∧ g (.tup [.int (n : Int), d]) δ fun δ1 => tb { D with nx := forLE i x ds0 g tb D (n + 1) ds, ct := forLE i x ds0 g tb D (n + 1) ds, bk := endE_ i x ds0 D } δ1
def tdForLE (i : Nat) (g : TDG) (tb : TDS) : TDS := fun D δ => match δ[i]? with
  | some (.oL x ds) => forLE i x ds g tb D 0 ds δ
  | _ => False
theorem forLE_mono {i : Nat} {x : Addr} {ds0 : List DL.D} {g : TDG} {tb : TDS} (mg : MonoG g) (mb : MonoS tb) {D D' : EndsD} (w : EndsD.le D D') : ∀ (n : Nat) (ds : List DL.D) (δ : List Sl), forLE i x ds0 g tb D n ds δ → forLE i x ds0 g tb D' n ds δ
  | _, [], δ, h => ⟨h.1, w.nx _ h.2⟩
  | n, d :: ds, δ, h => ⟨h.1, mg _ _ _ _ h.2 fun δ1 q => mb { D with nx := forLE i x ds0 g tb D (n + 1) ds, ct := forLE i x ds0 g tb D (n + 1) ds, bk := endE_ i x ds0 D } { D' with nx := forLE i x ds0 g tb D' (n + 1) ds, ct := forLE i x ds0 g tb D' (n + 1) ds, bk := endE_ i x ds0 D' } _ ⟨fun δ' q => forLE_mono mg mb w _ ds δ' q, w.rt, fun δ' q => ⟨q.1, w.nx _ q.2⟩, fun δ' q => forLE_mono mg mb w _ ds δ' q, w.ex⟩ q⟩
section
variable {X : Cx} {e : Expr} {body : List Stmt} {pos p epos tpos : Pos} {elts : List Expr} {kk : Nat} {vs : List Nat} {g : TDG} {tb : TDS} {i : Nat}
theorem pds_forLE (hp : PassesOwn (model X.prog X.w) X.A X.env X.xe) (hc : X.calm = true) (hge : Gl X "enumerate") (hme : X.mg "enumerate" = none) (hi : PE X e (tVar i)) (hg : PDG X (.Tuple elts kk tpos) vs g) (hb : PDSs X body tb)
    (hst : starEach [e] X.env = (false, eval e X.env) :: starEach [] X.env := by rfl) (hs : ∀ x, foldedSetIterable (.Call (.Name "enumerate" p) [e] [] epos) X.env x = pure x := by intro _; rfl) :
    PDS X (.For (.Tuple elts kk tpos) (.Call (.Name "enumerate" p) [e] [] epos) body [] pos) (tdForLE i g tb) := by
  refine ⟨PS.weak (ps_for hp hc (pi_enumX hge hme (pa_cons hi pa_nil hst) hst) hg.pg hb.ps hs) fun D σ H ⟨B, H0, G0, δ, G, R, q⟩ => ?_, fun D D' δ w q => ?_⟩
  · unfold tdForLE at q
    split at q
    · rename_i a ds e1
      obtain ⟨xs0, ev, oa0, ha0, hA0⟩ := R.oL e1
      refine ⟨.ref a, ev, a, xs0, rfl, .inl ⟨SqL.of ha0, ?_⟩⟩
      refine ⟨fun k m σ' H' => k + m = ds.length ∧ ∃ δ' G', Rel X.K B H0 G H' σ' δ' G' ∧ forLE i a ds g tb (endsOf X B H0 G0 D) k (ds.drop k) δ', ⟨ds.length, by omega, _, G, R.rebase, by simpa using q⟩, fun k m σ' H' hW => ?_⟩
      obtain ⟨em, δ', G', R', q'⟩ := hW
      have fin : ∀ {σ5 : L2.St} {H5 : Hp} {δ5 : List Sl} {G5 : Hp}, Rel X.K B H0 G H5 σ5 δ5 G5 → endE_ i a ds (endsOf X B H0 G0 D) δ5 → D.nx σ5 H5 := fun {σ5 H5 δ5 G5} R5 q5 => q5.2 σ5 H5 G5 (R.back R5)
      by_cases hk : k < ds.length
      · rw [List.drop_eq_getElem_cons hk] at q'
        obtain ⟨e2, q'⟩ := q'
        obtain ⟨xs, ev2, oa, ha, hA⟩ := R'.oL e2
        obtain ⟨v, gv, hv⟩ := hA.get (List.getElem?_eq_getElem hk)
        refine .inr ⟨⟨xs, v, SqL.of ha, gv⟩, fun σ2 H2 => ∃ δ2 G2, Rel X.K B H0 G H2 σ2 δ2 G2 ∧ forLE i a ds g tb (endsOf X B H0 G0 D) (k + 1) (ds.drop (k + 1)) δ2, fun σ2 H2 ⟨δ2, G2, R2, q2⟩ => ⟨m - 1, by omega, by omega, δ2, G2, R2, q2⟩, fun x H3 y => ?_⟩
        obtain ⟨T, x1, rfl, nT, rfl, y2⟩ := y
        have z := y2 xs (SqL.of ha)
        rw [gv] at z
        cases z
        obtain ⟨R3, s3⟩ := R'.laidG (o := .tup [.int (k : Nat), v]) nT (by show (2 : Nat) ≤ sizeLine; decide)
        have hT : Dd X.K (upd G' T (.tup [.int (k : Nat), v])) (.ref T) (.tup [.int (k : Int), ds[k]]) := .tup (.inl upd_same) (.cons (.int _) (.cons (Dd.mono s3 _ _ hv) .nil))
        refine ⟨B, H0, G, δ', _, .tup [.int (k : Int), ds[k]], R3, hT, hg.mono _ _ _ _ q' fun δ4 q4 σ4 _ R4 => ⟨B, H0, G, δ4, _, R4, hb.mono _ _ _ ?_ q4⟩⟩
        exact ⟨fun δ5 q5 σ5 H5 G5 R5 => ⟨δ5, G5, R5, q5⟩, fun r δ5 q5 v σ5 H5 G5 R5 ok => q5 v σ5 H5 G5 (R.back R5) ok, fun δ5 q5 σ5 H5 G5 R5 => fin R5 q5, fun δ5 q5 σ5 H5 G5 R5 => ⟨δ5, G5, R5, q5⟩, fun C ns ds δ5 q5 σ5 H5 G5 dd xs R5 => q5 σ5 H5 G5 dd xs (R.back R5)⟩
      · have ei : k = ds.length := by omega
        subst ei
        rw [List.drop_length] at q'
        obtain ⟨xs, ev2, oa, ha, hA⟩ := R'.oL q'.1
        exact .inl ⟨⟨xs, SqL.of ha, Nat.le_of_eq hA.len⟩, fin R' q'⟩
    · exact q.elim
  · unfold tdForLE at q ⊢
    split at q
    · exact forLE_mono hg.mono hb.mono w _ _ _ q
    · exact q
end
abbrev TFO := List D → (List Str → List D → Prop) → Prop
structure RetIO (K : PySem.W.Frag) (B : Bg K) (C : Addr) (H G H' G' : Hp) (x a : Addr) (L : List D) (ns : List Str) (ds : List D) : Prop where
  gg : Same G G'
  gh : Same G' H'
  bag : ∀ b c, (b, c) ∈ B → BagOk H' G' b c
  fra : ∀ b o, b ≠ x → b ≠ a → H b = some o → NotB B b → H' b = some o
  sz : HSz H'
  gn : ∀ b o, G' b = some o → G b = some o ∨ N0 (del H a b)
  gx : G' x = none
  obj : ∃ dx xs, ns.length = xs.length ∧ H' x = some (.ins C dx (ns.zip xs)) ∧ DdA K G' xs ds
  ga : G' a = none
  la : ∃ xs, H' a = some (.lst xs) ∧ DdA K G' xs L
def spIO (K : PySem.W.Frag) (C : Addr) (t : TFO) : Sp := fun vs H Q _ => ∃ x a B G dx L, vs = [.ref x, .ref a] ∧ x ≠ a ∧ H x = some (.ins C dx []) ∧ G x = none ∧ NotB B x ∧ Same G H ∧ (∀ b c, (b, c) ∈ B → BagOk H G b c) ∧ HSz H ∧
  G a = none ∧ NotB B a ∧ (∃ xs, H a = some (.lst xs) ∧ DdA K G xs L) ∧ t L (fun ns ds => ∀ H' G', RetIO K B C H G H' G' x a L ns ds → Q .non H')
structure InitO (P : Program) (w : World) (K : PySem.W.Frag) (mg : Str → Option Value) (base : Heap) (k : Nat) (C : Addr) (x : Str) (t : TFO) : Prop where
  ex : ∃ f fd ps, FnOk P w K mg base CX0 k f fd ps (spIO K C t) ∧ Mk K C f ∧ mg x = some (.ref C) ∧ Binds K fd ps []
  mono : ∀ L (Q Q' : List Str → List D → Prop), t L Q → (∀ ns ds, Q ns ds → Q' ns ds) → t L Q'
def endIO (Q : List Str → List D → Prop) (x a C : Addr) (L : List D) (δ : List Sl) : Prop := ∃ ns ds, δ[0]? = some (.oI x C ns ds) ∧ δ[1]? = some (.oL a L) ∧ Q ns ds
section
variable {P : Program} {w : World} {K : PySem.W.Frag} {mg : Str → Option Value} {base : Heap} {qual x : Str} {st : Stmt} {N ps : List Str} {k : Nat} {t : TFO} {C : Addr}
theorem rel_startIO {B : Bg K} {H G : Hp} {N : List Str} {x a dx : Addr} {xs : List V} {L : List D} (xa : x ≠ a) (hx : H x = some (.ins C dx [])) (gx : G x = none) (nx : NotB B x) (sub : Same G H) (bag : ∀ b c, (b, c) ∈ B → BagOk H G b c) (sz : HSz H)
    (ga : G a = none) (na : NotB B a) (ha : H a = some (.lst xs)) (hA : DdA K G xs L) (hN : 1 < N.length) :
    Rel K B (fun b => if b = x then none else DL.del H a b) G H (start N [.ref x, .ref a]) (startD N [.oI x C [] [], .oL a L]) G := by
  have hx1 : DL.del H a x = some (.ins C dx []) := by rw [del_ne xa]; exact hx
  have R1 : Rel K B (fun b => if b = x then none else DL.del H a b) G (DL.del H a) (start N [.ref x]) (startD N [.oI x C [] []]) G :=
    rel_startI (vs := []) (rs := []) hx1 gx nx (fun b o e => by rw [del_ne (ne_of_none e ga)]; exact sub _ _ e) (fun b c e => (bag b c e).up (del_ne fun z => na c (z ▸ e)) (Same.refl _) (bag b c e).gn) (fun b o e => sz b o (del_some e).2) trivial
  obtain ⟨h1, h2, h3⟩ := R1.newOwn (p := a) del_same
  have R2 := R1.undel ha (sz _ _ ha)
  have R3 := R2.assign (v := .ref a) (r := .oL a L) ⟨⟨a, rfl, ga, rfl, xs, ha, hA⟩, (fun z => nomatch z), fun _ b e => by cases e; exact ⟨h1, h2, h3⟩⟩ 1
  obtain ⟨n, hn⟩ : ∃ n, N.length = n + 2 := ⟨N.length - 2, by omega⟩
  have e1 : (start N [.ref x]).set 1 (some (.ref a)) = start N [.ref x, .ref a] := by
    unfold L2.start
    rw [hn]
    rfl
  have e2 : (startD N [.oI x C [] []]).set 1 (.oL a L) = startD N [.oI x C [] [], .oL a L] := by
    unfold startD
    rw [hn]
    rfl
  rw [e1, e2] at R3
  exact R3
theorem InitO.of (D0 : Dfi K mg C x qual st ps) (S : FnScope N ps (defScope st)) (hn : ps.length = 2) (hN : 1 < N.length) (mt : ∀ L (Q Q' : List Str → List D → Prop), t L Q → (∀ ns ds, Q ns ds → Q' ns ds) → t L Q')
    (hb : ∀ (f : Addr) (cdv : Value) (A : Around) (outer : List Env) (s : Shared) (H : Hp) (E : XK), Room k (A.deeper (envOfC qual (defScope st) s.heap.objs.size f cdv)) →
      ∃ tS, PDSs (cxOf CX0 P w K mg base N qual (defScope st) f cdv A outer s H E).nox (defBody st) tS ∧ ∀ xa a L (Q : List Str → List DL.D → Prop), t L Q → tS { nx := endIO Q xa a C L, rt := fun r δ => r = .dt .non ∧ endIO Q xa a C L δ } (startD N [.oI xa C [] [], .oL a L])) :
    InitO P w K mg base (k + 1) C x t := by
  obtain ⟨f, fd, F, hm, hx, hbd⟩ := D0.ex
  refine ⟨⟨f, fd, ps, ?_, hm, hx, hbd⟩, mt⟩
  refine F.ok S (fun vs H Q E h => by obtain ⟨x, a, B, G, dx, L, rfl, _⟩ := h; exact hn.symm) fun cdv A outer s H vs Q E hr want => ?_
  obtain ⟨tS, h, le⟩ := hb f cdv A outer s H E hr
  refine ⟨_, h.ps, ?_⟩
  obtain ⟨x, a, B, G, dx, L, rfl, xa, hx, gx, nx, sub, bag, sz, ga, na, ⟨xs, ha, hA⟩, q⟩ := want
  refine ⟨B, _, G, _, G, rel_startIO xa hx gx nx sub bag sz ga na ha hA hN, h.mono _ _ _ ?_ (le x a L _ q)⟩
  have fin : ∀ {δ' : List Sl} {σ' : L2.St} {H' G' : Hp}, Rel K B (fun b => if b = x then none else DL.del H a b) G H' σ' δ' G' → endIO (fun ns ds => ∀ H' G', RetIO K B C H G H' G' x a L ns ds → Q .non H') x a C L δ' → Q .non H' := fun {δ' σ' H' G'} R' ⟨ns, ds, e, e1, q⟩ => by
    obtain ⟨ys, ev1, oa1, ha1, hA1⟩ := R'.oL e1
    rcases R'.sl 0 _ e with z | ⟨v, ev, p, rfl, gp, rfl, dx', xs, h0, h1, h2⟩
    · cases z
    · refine q H' G' ⟨R'.g0, R'.sub, R'.bag, fun b o nb na e2 n => R'.ent b o (by rw [if_neg nb, del_ne na]; exact e2) n, R'.sz, fun b o e2 => ?_, gp, ⟨dx', xs, h0, h1, h2⟩, (R'.own 1 a oa1).2.1, ys, ha1, hA1⟩
      rcases R'.gn b o e2 with z | z
      · exact .inl z
      · by_cases hb : b = p
        · rw [hb, gp] at e2; cases e2
        · rw [if_neg hb] at z; exact .inr z
  exact ⟨fun δ q σ' H' G' R' => fin R' q, fun r δ q v σ' H' G' R' ok => by
    obtain ⟨rfl, q⟩ := q
    cases ok.1
    exact fin R' q, fun _ q => q.elim, fun _ q => q.elim, fun _ _ _ _ q => q.elim⟩
end
def tdNewO (C : Addr) (t : TFO) (j : Nat) : TD := fun δ Q => ∃ L, δ[j]? = some (.ol L) ∧ t L (fun ns ds => ∀ xa, Q (.oI xa C ns ds) δ)
section
variable {X : Cx} {e : Expr} {C : Addr} {k j : Nat} {t : TFO} {x : Str} {p pos : Pos}
theorem pdm_newO (M : InitO X.prog X.w X.K X.mg X.base k C x t) (hr : Room (k + 1) X.A) (hg : Gl X x) (h : PE X e (tVar j))
    (hdb : (x == ("__debug__" : Str)) = false := by decide) (he : starEach [e] X.env = (false, eval e X.env) :: starEach [] X.env := by rfl) (hpl : (backTo pos (starEach [] X.env)).any (·.1) = false := by rfl) :
    PDM X (.Call (.Name x p) [e] [] pos) (tdNewO C t j) := by
  obtain ⟨f, fd, ps, F, mk, hm, hb⟩ := M.ex
  refine ⟨PE.weak (pe_make mk F hr hg hm hb .nil pass0 (pa_cons h pa_nil he) hdb he hpl) fun σ H Q ⟨B, H0, G0, δ, G, R, q⟩ => ?_, fun δ Q Q' ⟨L, e, q⟩ w => ⟨L, e, M.mono _ _ _ q fun ns ds q xa => w _ _ (q xa)⟩⟩
  obtain ⟨L, ej, q⟩ := q
  obtain ⟨a, xs, ev, oa, ha, hA⟩ := R.ol ej
  obtain ⟨h0, ga, nb⟩ := R.own j a oa
  refine ⟨_, ev, ?_⟩
  intro xa dx hx hdx nex
  have nxa : xa ≠ a := fun z => by rw [z, ha] at hx; cases hx
  have nda : dx ≠ a := fun z => by rw [z, ha] at hdx; cases hdx
  have R2 := R.laidO (o := .own xa) hdx trivial
  have hx2 : upd H dx (.own xa) xa = none := by rw [upd_ne nex.symm]; exact hx
  have R3 := R2.laidO (o := .ins C dx []) hx2 trivial
  have nB : NotB B xa := (R.newOwn hx).2.1
  have ha3 : upd (upd H dx (.own xa)) xa (.ins C dx []) a = some (.lst xs) := by rw [upd_ne nxa.symm, upd_ne nda.symm]; exact ha
  refine ⟨xa, a, B, G, dx, L, rfl, nxa, upd_same, R.sub.free hx, nB, R3.sub, R3.bag, R3.sz, ga, nb, ⟨xs, ha3, hA⟩, M.mono _ _ _ q fun ns ds q H' G' k => ⟨rfl, ?_⟩⟩
  have back : ∀ b, N0 (DL.del (upd (upd H dx (.own xa)) xa (.ins C dx [])) a b) → N0 (DL.del H a b) := fun b z => by
    by_cases hba : b = a
    · rw [hba]; exact .of del_same
    rw [del_ne hba] at z ⊢
    by_cases hbx : b = xa
    · rw [hbx]; exact .of hx
    · rw [upd_ne hbx] at z
      by_cases hb : b = dx
      · rw [hb]; exact .of hdx
      · rw [upd_ne hb] at z; exact z
  have hxd : DL.del H a xa = none := by rw [del_ne nxa]; exact hx
  have kk : RetOk X.K B (DL.del H a) G H' G' (.ref xa) (.oI xa C ns ds) := by
    refine ⟨k.gg, k.gh, k.bag, fun b o e nb => ?_, k.sz, fun b o e => (k.gn b o e).imp id (back b), ⟨xa, rfl, k.gx, rfl, k.obj⟩, fun z => (nomatch z), fun _ b e => by cases e; exact hxd⟩
    obtain ⟨e1, e2⟩ := del_some e
    exact k.fra b o (ne_of_none e hxd) e1 (by rw [upd_ne (ne_of_none e2 hx), upd_ne (ne_of_none e2 hdx)]; exact e2) nb
  obtain ⟨R4, ok⟩ := R.callO (L' := L) oa (v := .ref xa) (r := .oI xa C ns ds) ⟨kk, k.la, k.ga, fun _ z => by cases z; exact nxa rfl⟩
  rw [set_self ej] at R4 ok
  exact q xa (.ref xa) H' G' R4 k.gg ok
end
def tdParM (i j : Nat) (ta tb : TD) : TDS := fun D δ => ta δ fun r δ1 => r.isOwn = true ∧ tb δ1 fun s δ2 => hdsOf δ2 = [] ∧ D.nx ((δ2.set i r).set j s)
section
variable {X : Cx} {a b : Expr} {pos : Pos} {ta tb : TD}
theorem pds_parME {i j : Nat} {x y : Str} {px py pt : Pos} {kt k2 pt2} (hc : X.calm = true) (hN : X.N.Nodup) (hi : X.N[i]? = some x) (hj : X.N[j]? = some y) (hij : i ≠ j)
    (hx : X.env.scope.names.lookup x = some .local) (hy : X.env.scope.names.lookup y = some .local) (ha : PDM X a ta) (hb : PD X b tb)
    (hw : swappedStores [.Tuple [.Name x px, .Name y py] kt pt] (.Tuple [a, b] k2 pt2) X.env = pure (some [x, y]))
    (hs : swapsWithSole [.Tuple [.Name x px, .Name y py] kt pt] (.Tuple [a, b] k2 pt2) pos.line X.env = pure false := by rfl)
    (h1 : starEach [a, b] X.env = (false, eval a X.env) :: starEach [b] X.env := by rfl) (h2 : starEach [b] X.env = (false, eval b X.env) :: starEach [] X.env := by rfl) :
    PDS X (.Assign [.Tuple [.Name x px, .Name y py] kt pt] (.Tuple [a, b] k2 pt2) pos) (tdParM i j ta tb) := by
  refine ⟨PS.weak (ps_par hc hN hi hj hij hx hy (pa_cons ha.pe (pa_cons hb.pe pa_nil h2) h1) hw hs) fun D σ H ⟨B, H0, G0, δ, G, R, q⟩ => ⟨B, H0, G0, δ, G, R, ha.mono _ _ _ q fun r δ1 q v H1 G1 R1 s1 ok => ?_⟩, fun D D' δ w q => ha.mono _ _ _ q fun r δ1 q => ⟨q.1, hb.mono _ _ _ q.2 fun s δ2 q => ⟨q.1, w.nx _ q.2⟩⟩⟩
  obtain ⟨io, q⟩ := q
  obtain ⟨p, rfl, gp, oa⟩ := ok.1.own io
  obtain ⟨z0, nB, no⟩ := ok.2.2 io p rfl
  obtain ⟨o, ho⟩ := oa.there
  have Rk := R1.keep ho gp z0 no
  have in1 : hideH [p] H1 H0 p = some o := by rw [hideH_in (List.mem_singleton.mpr rfl)]; exact ho
  refine ⟨B, _, G0, δ1, G1, Rk, hb.mono _ _ _ q fun s δ2 q w H3 G3 R3 s3 f3 ok3 => ⟨_, w, rfl, ?_⟩⟩
  have up : Up B H0 G0 (hideH [p] H1 H0) G0 := ((Up.refl (B := B) (H0 := H0) (G0 := G0)).hide (L := [p]) (H := H1) fun c hc => by rw [List.mem_singleton.mp hc]; exact ⟨z0, nB⟩).1
  have R4 := R3.weak up q.1
  have g3 : G3 p = none := none_of fun u z => by
    rcases R3.gn _ _ z with y | y
    · rw [R1.g0 _ _ y] at gp; cases gp
    · rw [in1] at y; exact oa.nn (by rw [ho]; exact y)
  have h3 : ∀ u, H1 p = some u → H3 p = some u := fun u e => f3 _ _ e nB
  have nop : ∀ k, ¬ Own σ δ2 k p := fun k ob => by
    have := (R3.own k p ob).1
    rw [in1] at this; cases this
  have A1 := R4.assign (v := .ref p) (r := r) ⟨ok.1.upK io h3 s3 g3, ok.2.1, fun _ c e => by cases e; exact ⟨z0, nB, nop⟩⟩ i
  refine q.2 _ _ G3 (A1.assign ⟨ok3.1, ok3.2.1, fun ios c e => ?_⟩ j)
  obtain ⟨y1, y2, y3⟩ := ok3.2.2 ios c e
  refine ⟨up.no y1 y2, y2, fun k ⟨e1, t, e2, it⟩ => ?_⟩
  rcases getSet e2 with ⟨x1, x2, x3⟩ | ⟨x1, x2⟩ | ⟨_, _, x⟩
  · subst x1
    rw [List.getElem?_set_self (by rw [R4.len]; exact x2)] at e1
    cases e1
    rw [in1] at y1; cases y1
  · rw [List.getElem?_set_ne x1] at e1
    exact y3 k ⟨e1, t, x2, it⟩
  · exact x.elim
end
end DL
set_option Elab.async false
set_option linter.all false
set_option maxRecDepth 100000
set_option maxHeartbeats 4000000
namespace DL
open PySem PySem.Spec PyProof.Rows L2
def tyJ (j k : Nat) : TS := fun D σ H => ∃ a us, σ[j]? = some (some (.ref a)) ∧ H a = some (.lst us) ∧ 1 ≤ us.length ∧ us.length + k < sizeLine ∧ ∀ ws : List V, 1 ≤ ws.length → ws.length ≤ us.length + k → D.nx σ (upd H a (.lst ws))
structure PJ (X : Cx) (j k : Nat) (st : Stmt) : Prop where
  ps : PS X st (tyJ j k)
structure PJs (X : Cx) (j k : Nat) (sts : List Stmt) : Prop where
  ps : PSs X sts (tyJ j k)
def tyK (X : Cx) (j k : Nat) : TS := fun D σ H => ∃ v, σ[j]? = some (some v) ∧ ((∃ a us, v = .ref a ∧ H a = some (.lst us) ∧ 1 ≤ us.length ∧ us.length + k < sizeLine ∧ ∀ ws : List V, 1 ≤ ws.length → ws.length ≤ us.length + k → D.nx σ (upd H a (.lst ws))) ∨ (TyX X.K H v (.type "tuple") ∧ D.nx σ H))
structure PKs (X : Cx) (j k : Nat) (sts : List Stmt) : Prop where
  ps : PSs X sts (tyK X j k)
section
variable {X : Cx} {st : Stmt} {sts sa : List Stmt} {j k k1 k2 : Nat} {o e jx a : Expr} {pos p1 p2 p : Pos} {cv : V}
theorem pjs_cons (h : PJ X j k1 st) (hs : PJs X j k2 sts) : PJs X j (k1 + k2) (st :: sts) :=
  ⟨PSs.weak (pss_cons h.ps hs.ps) fun D σ H ⟨a, us, e1, e2, e3, e4, q⟩ => ⟨a, us, e1, e2, e3, by omega, fun ws h1 h2 => ⟨a, ws, e1, upd_same, h1, by omega, fun ws2 h3 h4 => by
    rw [upd_upd]; exact q ws2 h3 (by omega)⟩⟩⟩
theorem pjs_one (h : PJ X j k st) : PJs X j k [st] := ⟨pss_one h.ps⟩
theorem pj_app (ho : PE X o (tVar j)) (he : PE X e (tC cv)) (hbase : attributeBase o "append" X.env (eval o X.env) = eval o X.env := by rfl)
    (hfew : ((backTo p2 (starEach [e] X.env)).all (fun x => !x.1) && (backToKw p2 (keywordEach [] X.env)).all (fun x => x.1.isSome)
      && decide ([e].length + ([] : List Keyword).length + (if ([] : List Keyword).isEmpty then 0 else 1) < 30)) = true := by rfl)
    (hline : (p1.endLine == p2.line) = true := by rfl) (hst : starEach [e] X.env = (false, eval e X.env) :: starEach [] X.env := by rfl) (hplain : (backTo p2 (starEach [] X.env)).any (·.1) = false := by rfl)
    (hs : swapsWith (.Call (.Attribute o "append" p1) [e] [] p2) none pos.line X.env = pure false := by rfl) : PJ X j 1 (.Expr (.Call (.Attribute o "append" p1) [e] [] p2) pos) :=
  ⟨PS.weak (ps_expr (pe_bm PySem.F.plainAttrs_list PySem.F.slot_list_append PySem.F.type_list_append mt_append ho (pa_cons he pa_nil hst) hbase hfew hline hst hplain) hs) fun D σ H ⟨a, us, e1, e2, e3, e4, q⟩ =>
    ⟨_, e1, .inl ⟨rfl, _, SqL.of e2⟩, a, us, cv, rfl, rfl, e2, by omega, q _ (by rw [List.length_append]; omega) (by rw [List.length_append]; exact Nat.le_refl _)⟩⟩
theorem pj_put0 (ho : PE X o (tVar j)) (hj : PE X jx (tC (.int 0))) (he : PE X e (tC cv)) (hs : swapsWithSole [.Subscript o jx p1] e pos.line X.env = pure false := by rfl) (hw : swappedStores [.Subscript o jx p1] e X.env = pure none := by rfl)
    (h1 : (assignEach [.Subscript o jx p1] X.env).map (·.2) = [assign (.Subscript o jx p1) X.env] := by rfl)
    (ha : ∀ v, assign (.Subscript o jx p1) X.env v = (do
      let ov ← holding [v] (eval o X.env)
      let iv ← holding [v, ov] (eval jx X.env)
      standAt p1
      holding [v, ov, iv] (setItem ov iv v)
      release [v, ov, iv] []) := by intro _; rfl) : PJ X j 0 (.Assign [.Subscript o jx p1] e pos) :=
  ⟨PS.weak (ps_asg he (pg_sub ho hj set_list ha) hs hw h1) fun D σ H ⟨a, us, e1, e2, e3, e4, q⟩ =>
    ⟨_, e1, a, us, 0, 0, rfl, rfl, e2, by unfold ixN; rw [if_pos (by omega), if_pos (by omega)]; rfl, q _ (by rw [List.length_set]; exact e3) (by rw [List.length_set]; exact Nat.le_refl _)⟩⟩
theorem pks_isl {x : Str} {p3 : Pos} (hg : Gl X "isinstance") (hm : X.mg "isinstance" = none) (hgx : Gl X x) (hmx : X.mg x = none) (hvx : bootBuiltins x = some (.type "list")) (ha : PE X a (tVar j)) (h : PJs X j k sa)
    (hn : x ≠ "__name__" := by decide) (hdx : (x == ("__debug__" : Str)) = false := by decide)
    (hs1 : starEach [.Name x p2] X.env = (false, eval (.Name x p2) X.env) :: starEach [] X.env := by rfl) (he : starEach [a, .Name x p2] X.env = (false, eval a X.env) :: starEach [.Name x p2] X.env := by rfl) (hpl : (backTo p3 (starEach [.Name x p2] X.env)).any (·.1) = false := by rfl)
    (ht : ∀ whole, isTrue (.Call (.Name "isinstance" p) [a, .Name x p2] [] p3) X.env whole = (do let v ← whole; standAt (Expr.Call (.Name "isinstance" p) [a, .Name x p2] [] p3).pos; holding [v] (truthy v)) := by intro _; rfl) :
    PKs X j k [.If (.Call (.Name "isinstance" p) [a, .Name x p2] [] p3) sa [] pos] := by
  have rule := pe_callB (X := X) (p := p) (pos := p3) call_isi hg hm boot_isi' (pa_cons ha (pa_cons (pe_bltn (pos := p2) (v := .ty "list") hgx hmx hvx rfl hn hdx) pa_nil hs1) he) (by decide) (by decide) he hpl
  refine ⟨PSs.weak (pss_one (ps_if (pt_val rule ht) h.ps pss_nil)) fun D σ H ⟨v, ev, q⟩ => ?_⟩
  refine ⟨v, ev, ?_⟩
  rcases q with ⟨b, us, rfl, e2, e3, e4, q⟩ | ⟨ty, q⟩
  · exact ⟨.ref b, .ty "list", _, _, true, rfl, .ty _, .base (.lst e2), kit_ty (kit_isTy .list (.lst []) rfl), true, rfl, b, us, ev, e2, e3, e4, q⟩
  · exact ⟨v, .ty "list", _, _, false, rfl, .ty _, ty, kit_ty (kit_isTy .list (.tup []) rfl), false, rfl, q⟩
end
structure BulkOk (ds : List D) (δ : List Sl) : Prop where
  it : ∀ d ∈ ds, (∃ es, d = .lst es ∧ nLkA es) ∨ ∃ es, d = .tup es
  av : ∀ es, D.lst es ∈ ds → (∀ fs, D.lst fs ∈ ds → avXA (.lst es) fs) ∧ (∀ fs, D.tup fs ∈ ds → avXA (.lst es) fs) ∧ ∀ s ∈ δ, avXS (.lst es) s
section
variable {K : PySem.W.Frag} {B : Bg K} {H0 G0 H : Hp} {σ : L2.St} {δ : List Sl}
def Jk (B : Bg K) (H0 H : Hp) (σ : L2.St) (δ : List Sl) (G : Hp) (v : V) (d : D) : Prop := ∃ b us es, d = .lst es ∧ v = .ref b ∧ H b = some (.lst us) ∧ us.length = es.length ∧ H0 b = none ∧ NotB B b ∧ G b = none ∧ ∀ q, ¬ Own σ δ q b
theorem Rel.dropBulk (Y : Yng B G0) (kh : KH K H) {all : List (V × D)} (ok : BulkOk (all.map (·.2)) δ) : ∀ (todo : List (V × D)) {G : Hp}, (∀ p ∈ todo, p ∈ all) → Rel K B H0 G0 H σ δ G → (∀ p ∈ all, Dd K G p.1 p.2 ∨ Jk B H0 H σ δ G p.1 p.2) →
    ∃ G1, Rel K B H0 G0 H σ δ G1 ∧ (∀ p ∈ all, Dd K G1 p.1 p.2 ∨ Jk B H0 H σ δ G1 p.1 p.2) ∧ (∀ p ∈ todo, (∃ es, p.2 = .tup es) ∨ Jk B H0 H σ δ G1 p.1 p.2) ∧ ∀ a, G a = none → G1 a = none
  | [], G, _, R, h => ⟨G, R, h, (fun _ h => nomatch h), fun _ e => e⟩
  | p0 :: todo, G, sub, R, h => by
    have m0 : p0 ∈ all := sub p0 List.mem_cons_self
    have d0 : p0.2 ∈ all.map (·.2) := List.mem_map_of_mem m0
    have jmono : ∀ {G G1 : Hp} {v : V} {d : D}, (∀ a, G a = none → G1 a = none) → Jk B H0 H σ δ G v d → Jk B H0 H σ δ G1 v d := fun w ⟨b, us, es, h1, h2, h3, h4, h5, h6, h7, h8⟩ => ⟨b, us, es, h1, h2, h3, h4, h5, h6, w b h7, h8⟩
    have skip : ((∃ es, p0.2 = .tup es) ∨ Jk B H0 H σ δ G p0.1 p0.2) → ∃ G1, Rel K B H0 G0 H σ δ G1 ∧ (∀ p ∈ all, Dd K G1 p.1 p.2 ∨ Jk B H0 H σ δ G1 p.1 p.2) ∧ (∀ p ∈ p0 :: todo, (∃ es, p.2 = .tup es) ∨ Jk B H0 H σ δ G1 p.1 p.2) ∧ ∀ a, G a = none → G1 a = none := fun z => by
      obtain ⟨G1, R1, h1, h2, h3⟩ := Rel.dropBulk Y kh ok todo (fun p hp => sub p (List.mem_cons_of_mem _ hp)) R h
      exact ⟨G1, R1, h1, fun p hp => by
        rcases List.mem_cons.mp hp with rfl | hp
        · exact z.imp id (jmono h3)
        · exact h2 p hp, h3⟩
    rcases ok.it _ d0 with ⟨es, ed, nl⟩ | z
    · rcases h p0 m0 with hd | hj
      · rw [ed] at hd d0
        obtain ⟨av1, av2, av3⟩ := ok.av es d0
        obtain ⟨a, us, e1, ga, hA⟩ : ∃ a us, p0.1 = .ref a ∧ G a = some (.lst us) ∧ DdA K G us es := by
          cases q : p0.1 <;> rw [q] at hd <;> cases hd
          exact ⟨_, _, rfl, by assumption, by assumption⟩
        have S : SpX K G a (.lst es) := ⟨⟨us, ga⟩, .lst ga hA, by rw [nLk]; exact nl, fun b o eo => kh b o (R.sub b o eo)⟩
        obtain ⟨f1, f2, f3, f4, f5⟩ := S.free Y R
        have R1 := R.dropX Y S fun i s e => av3 s (List.mem_of_getElem? e)
        have dn : ∀ b, G b = none → DL.del G a b = none := fun b e => none_of fun o z => by rw [(del_some z).2] at e; cases e
        have hj0 : Jk B H0 H σ δ (DL.del G a) p0.1 p0.2 := ⟨a, us, es, ed, e1, R.sub _ _ ga, hA.len, f1, f2, del_same, f3⟩
        have h1 : ∀ p ∈ all, Dd K (DL.del G a) p.1 p.2 ∨ Jk B H0 H σ δ (DL.del G a) p.1 p.2 := fun p hp => by
          rcases h p hp with hd2 | hj2
          · have dp : p.2 ∈ all.map (·.2) := List.mem_map_of_mem hp
            rcases ok.it _ dp with ⟨fs, ef, _⟩ | ⟨fs, ef⟩
            · rw [ef] at dp hd2 ⊢
              obtain ⟨b, ws, e2, gb, hB⟩ : ∃ b ws, p.1 = .ref b ∧ G b = some (.lst ws) ∧ DdA K G ws fs := by
                cases q : p.1 <;> rw [q] at hd2 <;> cases hd2
                exact ⟨_, _, rfl, by assumption, by assumption⟩
              by_cases hba : b = a
              · subst hba
                exact .inr ⟨b, ws, fs, rfl, e2, R.sub _ _ gb, hB.len, f1, f2, del_same, f3⟩
              · rw [e2]
                exact .inl (.lst (by rw [del_ne hba]; exact gb) (DdA.dropX S _ _ (av1 fs dp) hB))
            · rw [ef] at dp hd2 ⊢
              refine .inl (Dd.dropX S _ _ ?_ hd2)
              rw [avX]; exact av2 fs dp
          · exact .inr (jmono dn hj2)
        obtain ⟨G1, R2, h2, h3, h4⟩ := Rel.dropBulk Y kh ok todo (fun p hp => sub p (List.mem_cons_of_mem _ hp)) R1 h1
        refine ⟨G1, R2, h2, fun p hp => ?_, fun b e => h4 b (dn b e)⟩
        rcases List.mem_cons.mp hp with rfl | hp
        · exact .inr (jmono h4 hj0)
        · exact h3 p hp
      · exact skip (.inr hj)
    · exact skip (.inl z)
end
def tdJunk (i j k : Nat) (ks : List Nat) (t : TDS) : TDS := fun D δ => ∃ ds : List DL.D, δ[i]? = some (.ol ds) ∧ i ≠ j ∧ j < δ.length ∧ hdsOf (killD (i :: j :: ks) δ) = [] ∧ ds.length < sizeLine ∧ BulkOk ds (killD (i :: j :: ks) δ) ∧
  (∀ es, DL.D.lst es ∈ ds → 1 ≤ es.length ∧ es.length + (ds.length + 1) * k < sizeLine) ∧ t D (killD (i :: j :: ks) δ)
section
variable {X : Cx} {iter tg o e : Expr} {body sts : List Stmt} {pos pos1 p1 p2 : Pos} {i j k : Nat} {t : TDS} {cv : V}
theorem pdys_junk (ks : List Nat) (hp : PassesOwn (model X.prog X.w) X.A X.env X.xe) (hc : X.calm = true) (hi : PE X iter (tVar i)) (hg : PG X tg (gName j)) (hb : PKs X j k body) (ho : PE X o (tVar i)) (he : PE X e (tC cv)) (hr : PDYs X sts t)
    (hsf : ∀ x, foldedSetIterable iter X.env x = pure x := by intro _; rfl)
    (hbase : attributeBase o "append" X.env (eval o X.env) = eval o X.env := by rfl)
    (hfew : ((backTo p2 (starEach [e] X.env)).all (fun x => !x.1) && (backToKw p2 (keywordEach [] X.env)).all (fun x => x.1.isSome)
      && decide ([e].length + ([] : List Keyword).length + (if ([] : List Keyword).isEmpty then 0 else 1) < 30)) = true := by rfl)
    (hline : (p1.endLine == p2.line) = true := by rfl) (hst : starEach [e] X.env = (false, eval e X.env) :: starEach [] X.env := by rfl) (hplain : (backTo p2 (starEach [] X.env)).any (·.1) = false := by rfl)
    (hs : swapsWith (.Call (.Attribute o "append" p1) [e] [] p2) none pos1.line X.env = pure false := by rfl) :
    PDYs X (.For tg iter body [] pos :: .Expr (.Call (.Attribute o "append" p1) [e] [] p2) pos1 :: sts) (tdJunk i j k ks t) := by
  have r1 := ps_for (pos := pos) hp hc (pi_list (tg := tg) hi) hg hb.ps hsf
  have r2 := ps_expr (pe_bm PySem.F.plainAttrs_list PySem.F.slot_list_append PySem.F.type_list_append mt_append ho (pa_cons he pa_nil hst) hbase hfew hline hst hplain) hs
  refine ⟨PSs.weak (PSs.kh (pss_cons r1 (pss_cons r2 hr.ps))) fun D σ H ⟨B, H0, G0, δ, G, Y, R, q⟩ kh => ?_, fun D D' δ w ⟨ds, h1, h2, h3, h4, h5, h6, h7, h8⟩ => ⟨ds, h1, h2, h3, h4, h5, h6, h7, hr.mono _ _ _ w h8⟩⟩
  obtain ⟨ds, ed, hij, hj, nh, hz, ok, sz, q⟩ := q
  obtain ⟨a, xs, ev, oa, ha, hA⟩ := R.ol ed
  obtain ⟨h0, ga, nb⟩ := R.own i a oa
  obtain ⟨R1, no1⟩ := R.unslot oa
  have R2 := R1.kill (j :: ks)
  have hδ : killD (j :: ks) (δ.set i .no) = killD (i :: j :: ks) δ := rfl
  rw [hδ] at R2
  generalize hk : killD (i :: j :: ks) δ = δk at *
  have lk : δk.length = δ.length := by rw [← hk]; exact killD_len _ _
  have ejk : δk[j]? = some .no := by
    rw [← hk]
    refine killD_no ks ?_
    rw [List.getElem?_set_self (by rw [List.length_set]; exact hj)]
  have noa : ∀ k, ¬ Own σ δk k a := fun k ⟨e1, s, e2, io⟩ => by
    have : ∀ (ks : List Nat) (δ0 : List Sl), (killD ks δ0)[k]? = some s → δ0[k]? = some s := fun ks => by
      induction ks with
      | nil => intro δ0 h; exact h
      | cons x ks ih =>
        intro δ0 h
        have h2 := ih (δ0.set x .no) h
        rcases getSet h2 with ⟨_, _, z⟩ | ⟨_, z⟩ | ⟨_, _, z⟩
        · subst z; cases io
        · exact z
        · exact z.elim
    have e3 := this (j :: ks) (δ.set i .no) (by rw [hδ]; exact e2)
    exact no1 k ⟨e1, s, e3, io⟩
  have zl : xs.length = ds.length := hA.len
  have zm : (xs.zip ds).map (·.2) = ds := List.map_snd_zip (by omega)
  have zd : ∀ p ∈ xs.zip ds, Dd X.K G p.1 p.2 := fun p hp => by
    obtain ⟨q, hq⟩ := List.getElem?_of_mem hp
    obtain ⟨v, d, e1, e2, rfl⟩ : ∃ v d, xs[q]? = some v ∧ ds[q]? = some d ∧ p = (v, d) := by
      rw [List.getElem?_zip_eq_some] at hq
      exact ⟨p.1, p.2, hq.1, hq.2, rfl⟩
    obtain ⟨v', e3, hv⟩ := hA.get e2
    rw [e1] at e3; cases e3
    exact hv
  obtain ⟨G1, R3, _, jk, gn1⟩ := Rel.dropBulk Y kh (all := xs.zip ds) (by rw [zm]; exact ok) (xs.zip ds) (fun _ h => h) R2 fun p hp => .inl (zd p hp)
  have ga1 : G1 a = none := gn1 a ga
  have item : ∀ (q : Nat) (v : V), xs[q]? = some v → (∃ es, DL.D.tup es ∈ ds ∧ Dd X.K G v (.tup es)) ∨ ∃ es, DL.D.lst es ∈ ds ∧ Jk B H0 H σ δk G1 v (.lst es) := fun q v e1 => by
    have hq : q < ds.length := by rw [← zl]; exact (List.getElem?_eq_some_iff.mp e1).1
    have e2 : ds[q]? = some ds[q] := List.getElem?_eq_getElem hq
    have hp : (v, ds[q]) ∈ xs.zip ds := List.mem_of_getElem? (i := q) (by rw [List.getElem?_zip_eq_some]; exact ⟨e1, e2⟩)
    rcases jk _ hp with ⟨es, z⟩ | z
    · have z : ds[q] = .tup es := z
      refine .inl ⟨es, z ▸ List.getElem_mem hq, z ▸ zd _ hp⟩
    · obtain ⟨b, us, es, y1, y2⟩ := id z
      have y1 : ds[q] = .lst es := y1
      exact .inr ⟨es, y1 ▸ List.getElem_mem hq, y1 ▸ z⟩
  have tuT : ∀ {v : V} {es : List DL.D}, Dd X.K G v (.tup es) → ∀ H' : Hp, (∀ b o, H b = some o → (∀ us, o ≠ .lst us) → H' b = some o) → TyX X.K H' v (.type "tuple") := fun {v es} h H' w => by
    cases h with
    | tup h1 h2 =>
      rcases h1 with h1 | ⟨(h1 | ⟨o, h1⟩) | ⟨o, its, n, hk, hc, _⟩, _⟩
      · exact .base (.tup (w _ _ (R.sub _ _ h1) fun us z => nomatch z))
      · cases h1
      · cases h1
      · exact .kTuple hk hc
  refine ⟨.ref a, ev, a, rfl, ⟨_, SqL.of ha⟩, ?_⟩
  refine ⟨fun n m σ' H' => n + m = ds.length ∧ σ'[i]? = some (some (.ref a)) ∧ Rel X.K B H0 G0 H' σ' δk G1 ∧ H' a = some (.lst xs) ∧ (∀ q, ¬ Own σ' δk q a) ∧ (∀ b o, H b = some o → (∀ us, o ≠ .lst us) → H' b = some o) ∧
    ∀ (q : Nat) (v : V), xs[q]? = some v → (∃ es, Dd X.K G v (.tup es)) ∨ ∃ b us es, v = .ref b ∧ DL.D.lst es ∈ ds ∧ b ≠ a ∧ H' b = some (.lst us) ∧ 1 ≤ us.length ∧ us.length ≤ es.length + n * k ∧ H0 b = none ∧ NotB B b ∧ G1 b = none ∧ ∀ q, ¬ Own σ' δk q b,
    ⟨ds.length, by omega, ev, R3, ha, noa, fun _ _ e _ => e, fun q v e => ?_⟩, fun n m σ' H' hW => ?_⟩
  · rcases item q v e with ⟨es, _, h⟩ | ⟨es, m, b, us, es', y1, y2, y3, y4, y5, y6, y7, y8⟩
    · exact .inl ⟨es, h⟩
    · cases y1
      have := (sz es m).1
      refine .inr ⟨b, us, es, y2, m, fun z => ?_, y3, by omega, by omega, y5, y6, y7, y8⟩
      subst z
      have hp := item q v e
      subst y2
      have hq : q < ds.length := by rw [← zl]; exact (List.getElem?_eq_some_iff.mp e).1
      obtain ⟨v', e3, hv⟩ := hA.get (List.getElem?_eq_getElem hq)
      rw [e] at e3; cases e3
      have : ∀ d, Dd X.K G (.ref b) d → False := fun d hd => by
        cases hd with
        | lst g1 _ => rw [ga] at g1; cases g1
        | tup g1 _ =>
          rcases g1 with g1 | ⟨g1, _⟩
          · rw [ga] at g1; cases g1
          · obtain ⟨o, z⟩ := sqC_look g1
            rw [kh _ _ ha] at z; cases z
        | dK _ g1 _ => rcases g1 with g1 | ⟨_, g1⟩ <;> (rw [ga] at g1; cases g1)
        | dT _ g1 _ => rw [ga] at g1; cases g1
        | dL _ g1 _ => rw [ga] at g1; cases g1
        | ins _ g1 _ => rw [ga] at g1; cases g1
      exact this _ hv
  obtain ⟨em, ev', R', ha', no', keep, each⟩ := hW
  by_cases hkl : n < ds.length
  · obtain ⟨v, gv⟩ : ∃ v, xs[n]? = some v := ⟨_, List.getElem?_eq_getElem (by omega)⟩
    refine .inr ⟨⟨_, v, SqL.of ha', gv⟩, fun σ2 H2 => (n + 1) + (m - 1) = ds.length ∧ σ2[i]? = some (some (.ref a)) ∧ Rel X.K B H0 G0 H2 σ2 δk G1 ∧ H2 a = some (.lst xs) ∧ (∀ q, ¬ Own σ2 δk q a) ∧ (∀ b o, H b = some o → (∀ us, o ≠ .lst us) → H2 b = some o) ∧
      ∀ (q : Nat) (v : V), xs[q]? = some v → (∃ es, Dd X.K G v (.tup es)) ∨ ∃ b us es, v = .ref b ∧ DL.D.lst es ∈ ds ∧ b ≠ a ∧ H2 b = some (.lst us) ∧ 1 ≤ us.length ∧ us.length ≤ es.length + (n + 1) * k ∧ H0 b = none ∧ NotB B b ∧ G1 b = none ∧ ∀ q, ¬ Own σ2 δk q b,
      fun σ2 H2 h => ⟨m - 1, by omega, h⟩, fun x H3 y => ?_⟩
    obtain ⟨rfl, y2⟩ := y
    have z := y2 _ (SqL.of ha')
    rw [gv] at z
    cases z
    have R4 := R'.junk ejk (some v)
    have own4 : ∀ {q : Nat} {b : Addr}, Own (σ'.set j (some v)) δk q b → Own σ' δk q b := fun {q b} ⟨e1, s, e2, io⟩ => by
      rw [List.getElem?_set_ne fun z => by subst z; rw [ejk] at e2; cases e2; cases io] at e1
      exact ⟨e1, s, e2, io⟩
    have evj : (σ'.set j (some v))[j]? = some (some v) := List.getElem?_set_self (by rw [R'.len, lk]; exact hj)
    have evi : (σ'.set j (some v))[i]? = some (some (.ref a)) := by rw [List.getElem?_set_ne hij.symm]; exact ev'
    have grow : n * k ≤ (n + 1) * k := Nat.mul_le_mul_right _ (Nat.le_succ n)
    have gr1 : (n + 1) * k = n * k + k := Nat.succ_mul n k
    have gr2 : (n + 1) * k ≤ (ds.length + 1) * k := Nat.mul_le_mul_right _ (by omega)
    refine ⟨v, evj, ?_⟩
    rcases each n v gv with ⟨es, h⟩ | ⟨b, us, es, rfl, mb, nba, hb1, l1, l2, b0, bn, bg, bo⟩
    · refine .inr ⟨tuT h _ keep, by omega, evi, R4, ha', fun q z => no' q (own4 z), keep, fun q w e => ?_⟩
      rcases each q w e with z | ⟨c, us, es, z1, z2, z3, z4, z5, z6, z7, z8, z9, z10⟩
      · exact .inl z
      · exact .inr ⟨c, us, es, z1, z2, z3, z4, z5, by omega, z7, z8, z9, fun q z => z10 q (own4 z)⟩
    · have lz := (sz es mb).2
      refine .inl ⟨b, us, rfl, hb1, l1, by omega, fun ws w1 w2 => ⟨by omega, evi, R4.writeFree b0 bg bn (fun q z => bo q (own4 z)) (show ws.length ≤ sizeLine by omega), by rw [upd_ne nba.symm]; exact ha', fun q z => no' q (own4 z), fun c o e1 e2 => ?_, fun q w e => ?_⟩⟩
      · rw [upd_ne fun z => by subst z; have y := keep c o e1 e2; rw [hb1] at y; cases y; exact e2 _ rfl]
        exact keep c o e1 e2
      · rcases each q w e with z | ⟨c, us', es', z1, z2, z3, z4, z5, z6, z7, z8, z9, z10⟩
        · exact .inl z
        · by_cases hcb : c = b
          · subst hcb
            rw [hb1] at z4; cases z4
            exact .inr ⟨c, ws, es', z1, z2, z3, upd_same, w1, by omega, z7, z8, z9, fun q z => z10 q (own4 z)⟩
          · exact .inr ⟨c, us', es', z1, z2, z3, by rw [upd_ne hcb]; exact z4, z5, by omega, z7, z8, z9, fun q z => z10 q (own4 z)⟩
  · have ek : n = ds.length := by omega
    refine .inl ⟨⟨_, SqL.of ha', by omega⟩, ?_⟩
    refine ⟨_, ev', .inl ⟨rfl, _, SqL.of ha'⟩, a, xs, cv, rfl, rfl, ha', by omega, ?_⟩
    exact ⟨B, H0, G0, δk, G1, Y, R'.writeFree h0 ga1 nb no' (show (xs ++ [cv]).length ≤ sizeLine by rw [List.length_append]; show xs.length + 1 ≤ _; omega), q⟩
end
end DL
set_option Elab.async false
set_option linter.all false
set_option maxRecDepth 100000
set_option maxHeartbeats 4000000
namespace DL
open PySem PySem.Spec PyProof.Rows L2
def fEqSI : FD2 := fun d e δ Q => match d, e with
  | .int i, .int j => Q (.dt (.bl (i == j))) δ
  | d, e => fEqS d e δ Q
theorem mono_fEqSI : MonoF2 fEqSI := fun d e δ Q Q' q w => by
  unfold fEqSI at q ⊢
  split at q
  · exact w _ _ q
  · exact mono_fEqS _ _ _ _ _ q w
theorem opS_eqSI {K : PySem.W.Frag} : OpS K (fun x y H Q => rEqX K x y H Q ∨ rEqS K x y H Q) fEqSI := by
  intro B H0 G0 H σ δ G x y d e Q R hx hy q
  unfold fEqSI at q
  split at q
  · rename_i i j
    exact .inl (opS_eq _ _ _ _ _ _ _ _ _ _ _ _ R hx hy (by unfold fEq; exact ⟨rfl, rfl, q⟩))
  · exact .inr (opS_eqS _ _ _ _ _ _ _ _ _ _ _ _ R hx hy q)
section
variable {X : Cx} {a b : Expr} {ta tb : TD} {pos : Pos}
theorem pd_eqSI (hu : X.A.units + 65 < cLine) (ha : PD X a ta) (hb : PD X b tb) (hm : behindInMarks .Eq b = false := nomark _) : PD X (.Compare a [.Eq] [b] pos) (td2 fEqSI ta tb) :=
  pd_cmp (opR_or (opR_or op_eq (op_eqD (Nat.lt_of_succ_lt hu))) (op_eqS hu)) mono_fEqSI opS_eqSI ha hb hm
end
theorem forLE_L {i : Nat} {x : Addr} {ds0 : List DL.D} {g : TDG} {tb : TDS} {D : EndsD} (I : Nat → List DL.D → List Sl → Prop)
    (step : ∀ n d ds δ (N : List Sl → Prop), I n (d :: ds) δ → (∀ δ', I (n + 1) ds δ' → N δ') → δ[i]? = some (.oL x ds0) ∧ g (.tup [.int (n : Int), d]) δ fun δ1 => tb { D with nx := N, ct := N, bk := endE_ i x ds0 D } δ1)
    (fin : ∀ n δ, I n [] δ → δ[i]? = some (.oL x ds0) ∧ D.nx δ) : ∀ (n : Nat) (ds : List DL.D) (δ : List Sl), I n ds δ → forLE i x ds0 g tb D n ds δ
  | n, [], δ, h => fin n δ h
  | n, d :: ds, δ, h => step n d ds δ _ h fun δ' h' => forLE_L I step fin (n + 1) ds δ' h'
end DL
set_option Elab.async false
set_option linter.all false
set_option maxRecDepth 100000
set_option maxHeartbeats 4000000
namespace K20
open PySem PySem.Spec PyProof.Rows L2 DL
def topS (i : Nat) : Stmt := PySem.Challenge.pw_longsheet_k20_sheets_told.main.body.getD i (.Pass ⟨0, 0, 0, 0⟩)
abbrev s__wall : Stmt := topS 0
abbrev s_is_integer : Stmt := topS 8
theorem sc_is_integer : FnScope ["thing"] ["thing"] (defScope s_is_integer) := ⟨rfl, rfl, rfl, by decide +kernel, rfl, by decide +kernel, by decide +kernel⟩
abbrev s_is_number : Stmt := topS 9
theorem sc_is_number : FnScope ["thing"] ["thing"] (defScope s_is_number) := ⟨rfl, rfl, rfl, by decide +kernel, rfl, by decide +kernel, by decide +kernel⟩
abbrev s_is_column_part : Stmt := topS 11
theorem sc_is_column_part : FnScope ["thing"] ["thing"] (defScope s_is_column_part) := ⟨rfl, rfl, rfl, by decide +kernel, rfl, by decide +kernel, by decide +kernel⟩
abbrev s_is_row_part : Stmt := topS 12
theorem sc_is_row_part : FnScope ["thing"] ["thing"] (defScope s_is_row_part) := ⟨rfl, rfl, rfl, by decide +kernel, rfl, by decide +kernel, by decide +kernel⟩
abbrev s_is_name : Stmt := topS 13
theorem sc_is_name : FnScope ["thing"] ["thing"] (defScope s_is_name) := ⟨rfl, rfl, rfl, by decide +kernel, rfl, by decide +kernel, by decide +kernel⟩
abbrev s_is_limit : Stmt := topS 14
theorem sc_is_limit : FnScope ["thing"] ["thing"] (defScope s_is_limit) := ⟨rfl, rfl, rfl, by decide +kernel, rfl, by decide +kernel, by decide +kernel⟩
abbrev s_is_range : Stmt := topS 15
theorem sc_is_range : FnScope ["thing"] ["thing"] (defScope s_is_range) := ⟨rfl, rfl, rfl, by decide +kernel, rfl, by decide +kernel, by decide +kernel⟩
abbrev s_are_formulas : Stmt := topS 20
theorem sc_are_formulas : FnScope ["thing", "one"] ["thing"] (defScope s_are_formulas) := ⟨rfl, rfl, rfl, by decide +kernel, rfl, by decide +kernel, by decide +kernel⟩
abbrev s_is_long_formula : Stmt := topS 21
theorem sc_is_long_formula : FnScope ["thing"] ["thing"] (defScope s_is_long_formula) := ⟨rfl, rfl, rfl, by decide +kernel, rfl, by decide +kernel, by decide +kernel⟩
abbrev s_is_formula : Stmt := topS 22
theorem sc_is_formula : FnScope ["thing"] ["thing"] (defScope s_is_formula) := ⟨rfl, rfl, rfl, by decide +kernel, rfl, by decide +kernel, by decide +kernel⟩
abbrev s_parts : Stmt := topS 23
theorem sc_parts : FnScope ["formula"] ["formula"] (defScope s_parts) := ⟨rfl, rfl, rfl, by decide +kernel, rfl, by decide +kernel, by decide +kernel⟩
abbrev s_reads : Stmt := topS 24
theorem sc_reads : FnScope ["formula", "part", "read"] ["formula"] (defScope s_reads) := ⟨rfl, rfl, rfl, by decide +kernel, rfl, by decide +kernel, by decide +kernel⟩
abbrev s_read_fits : Stmt := topS 25
theorem sc_read_fits : FnScope ["read", "place", "word"] ["read", "place"] (defScope s_read_fits) := ⟨rfl, rfl, rfl, by decide +kernel, rfl, by decide +kernel, by decide +kernel⟩
abbrev s_has_input : Stmt := topS 26
theorem sc_has_input : FnScope ["formula", "part"] ["formula"] (defScope s_has_input) := ⟨rfl, rfl, rfl, by decide +kernel, rfl, by decide +kernel, by decide +kernel⟩
abbrev s_fits : Stmt := topS 27
theorem sc_fits : FnScope ["formula", "place", "read"] ["formula", "place"] (defScope s_fits) := ⟨rfl, rfl, rfl, by decide +kernel, rfl, by decide +kernel, by decide +kernel⟩
abbrev s_is_row_of_formulas : Stmt := topS 29
theorem sc_is_row_of_formulas : FnScope ["thing", "one"] ["thing"] (defScope s_is_row_of_formulas) := ⟨rfl, rfl, rfl, by decide +kernel, rfl, by decide +kernel, by decide +kernel⟩
abbrev s__law_bag : Stmt := topS 32
theorem sc__law_bag : FnScope ["_law_script", "_law_cell"] ["_law_script"] (defScope s__law_bag) := ⟨rfl, rfl, rfl, by decide +kernel, rfl, by decide +kernel, by decide +kernel⟩
abbrev s__law_take : Stmt := topS 33
theorem sc__law_take : FnScope ["_law_bag_here", "_law_many", "_law_cell", "_law_mixed", "_law_drawn", "_law_begin", "_law_second"] ["_law_bag_here", "_law_many"] (defScope s__law_take) := ⟨rfl, rfl, rfl, by decide +kernel, rfl, by decide +kernel, by decide +kernel⟩
abbrev s__law_one : Stmt := topS 34
theorem sc__law_one : FnScope ["_law_bag_here", "_law_some"] ["_law_bag_here", "_law_some"] (defScope s__law_one) := ⟨rfl, rfl, rfl, by decide +kernel, rfl, by decide +kernel, by decide +kernel⟩
abbrev s__law_alike : Stmt := topS 35
theorem sc__law_alike : FnScope ["_law_found", "_law_due"] ["_law_found", "_law_due"] (defScope s__law_alike) := ⟨rfl, rfl, rfl, by decide +kernel, rfl, by decide +kernel, by decide +kernel⟩
abbrev s__law_nested : Stmt := topS 36
theorem sc__law_nested : FnScope ["_law_many", "_law_found", "_law_k"] ["_law_many"] (defScope s__law_nested) := ⟨rfl, rfl, rfl, by decide +kernel, rfl, by decide +kernel, by decide +kernel⟩
abbrev s__law_odd : Stmt := topS 37
theorem sc__law_odd : FnScope ["_law_bag_here", "_law_some"] ["_law_bag_here"] (defScope s__law_odd) := ⟨rfl, rfl, rfl, by decide +kernel, rfl, by decide +kernel, by decide +kernel⟩
abbrev s__law_number : Stmt := topS 38
theorem sc__law_number : FnScope ["_law_bag_here"] ["_law_bag_here"] (defScope s__law_number) := ⟨rfl, rfl, rfl, by decide +kernel, rfl, by decide +kernel, by decide +kernel⟩
abbrev s__law_column_part : Stmt := topS 39
theorem sc__law_column_part : FnScope ["_law_bag_here", "_law_kind"] ["_law_bag_here"] (defScope s__law_column_part) := ⟨rfl, rfl, rfl, by decide +kernel, rfl, by decide +kernel, by decide +kernel⟩
abbrev s__law_range : Stmt := topS 40
theorem sc__law_range : FnScope ["_law_bag_here", "_law_place", "_law_low", "_law_high"] ["_law_bag_here", "_law_place"] (defScope s__law_range) := ⟨rfl, rfl, rfl, by decide +kernel, rfl, by decide +kernel, by decide +kernel⟩
abbrev s__law_name : Stmt := topS 41
theorem sc__law_name : FnScope ["_law_bag_here", "_law_place", "_law_kind", "_law_row"] ["_law_bag_here", "_law_place"] (defScope s__law_name) := ⟨rfl, rfl, rfl, by decide +kernel, rfl, by decide +kernel, by decide +kernel⟩
abbrev s__law_formula : Stmt := topS 42
theorem sc__law_formula : FnScope ["_law_bag_here", "_law_place", "_law_deep", "_law_left", "_law_kind", "_law_some", "_law_k", "_law_one_here", "_law_other", "_law_then", "_law_rest"] ["_law_bag_here", "_law_place", "_law_deep", "_law_left"] (defScope s__law_formula) := ⟨rfl, rfl, rfl, by decide +kernel, rfl, by decide +kernel, by decide +kernel⟩
abbrev s__law_whole_formula : Stmt := topS 43
theorem sc__law_whole_formula : FnScope ["_law_bag_here", "_law_place", "_law_kind", "_law_k"] ["_law_bag_here", "_law_place"] (defScope s__law_whole_formula) := ⟨rfl, rfl, rfl, by decide +kernel, rfl, by decide +kernel, by decide +kernel⟩
abbrev s__law_is_whole : Stmt := topS 44
theorem sc__law_is_whole : FnScope ["_law_thing"] ["_law_thing"] (defScope s__law_is_whole) := ⟨rfl, rfl, rfl, by decide +kernel, rfl, by decide +kernel, by decide +kernel⟩
abbrev s__law_sheet : Stmt := topS 45
theorem sc__law_sheet : FnScope ["_law_bag_here", "_law_most", "_law_found", "_law_k", "_law_above", "_law_place"] ["_law_bag_here", "_law_most"] (defScope s__law_sheet) := ⟨rfl, rfl, rfl, by decide +kernel, rfl, by decide +kernel, by decide +kernel⟩
abbrev s__law_heard : Stmt := topS 46
theorem sc__law_heard : FnScope ["_law_sheet_here", "_law_at", "e"] ["_law_sheet_here", "_law_at"] (defScope s__law_heard) := ⟨rfl, rfl, rfl, by decide +kernel, rfl, by decide +kernel, by decide +kernel⟩
abbrev s__law_right : Stmt := topS 47
theorem sc__law_right : FnScope ["_law_bag_here", "_law_sheet_here", "_law_due", "_law_again", "_law_found", "_law_at", "_law_right_here"] ["_law_bag_here", "_law_sheet_here", "_law_due"] (defScope s__law_right) := ⟨rfl, rfl, rfl, by decide +kernel, rfl, by decide +kernel, by decide +kernel⟩
abbrev s_law : Stmt := topS 48
theorem sc_law : FnScope ["_law_script", "_law_bag_here", "_law_turn", "_law_due", "_law_given", "_law_one_here", "_law_sheet_here", "_law_twin", "_law_found", "_law_at", "_law_place", "_law_formula_here", "_law_other"] ["_law_script"] (defScope s_law) := ⟨rfl, rfl, rfl, by decide +kernel, rfl, by decide +kernel, by decide +kernel⟩
def clsBody : Stmt → List Stmt
  | .ClassDef _ _ _ b _ _ _ _ _ _ _ => b
  | _ => []
def clsS (i j : Nat) : Stmt := (clsBody (topS i)).getD j (.Pass ⟨0, 0, 0, 0⟩)
abbrev s_NoColumn___init__ : Stmt := clsS 4 0
theorem sc_NoColumn___init__ : FnScope ["self", "column"] ["self", "column"] (defScope s_NoColumn___init__) := ⟨rfl, rfl, rfl, by decide +kernel, rfl, by decide +kernel, by decide +kernel⟩
abbrev s_Sheet___init__ : Stmt := clsS 30 0
theorem sc_Sheet___init__ : FnScope ["self", "columns", "one", "at", "column", "place", "formula"] ["self", "columns"] (defScope s_Sheet___init__) := ⟨rfl, rfl, rfl, by decide +kernel, rfl, by decide +kernel, by decide +kernel⟩
abbrev s_Sheet_columns : Stmt := clsS 30 1
theorem sc_Sheet_columns : FnScope ["self"] ["self"] (defScope s_Sheet_columns) := ⟨rfl, rfl, rfl, by decide +kernel, rfl, by decide +kernel, by decide +kernel⟩
abbrev s_Sheet_has_column : Stmt := clsS 30 2
theorem sc_Sheet_has_column : FnScope ["self", "thing"] ["self", "thing"] (defScope s_Sheet_has_column) := ⟨rfl, rfl, rfl, by decide +kernel, rfl, by decide +kernel, by decide +kernel⟩
abbrev s_Sheet___len__ : Stmt := clsS 30 7
theorem sc_Sheet___len__ : FnScope ["self"] ["self"] (defScope s_Sheet___len__) := ⟨rfl, rfl, rfl, by decide +kernel, rfl, by decide +kernel, by decide +kernel⟩
abbrev s_Sheet___getitem__ : Stmt := clsS 30 8
theorem sc_Sheet___getitem__ : FnScope ["self", "column"] ["self", "column"] (defScope s_Sheet___getitem__) := ⟨rfl, rfl, rfl, by decide +kernel, rfl, by decide +kernel, by decide +kernel⟩
abbrev s_Sheet___eq__ : Stmt := clsS 30 10
theorem sc_Sheet___eq__ : FnScope ["self", "other"] ["self", "other"] (defScope s_Sheet___eq__) := ⟨rfl, rfl, rfl, by decide +kernel, rfl, by decide +kernel, by decide +kernel⟩
structure Tx (K : PySem.W.Frag) (mg : Str → Option Value) : Prop where
  b_TypeError : mg "TypeError" = none
  b_ValueError : mg "ValueError" = none
  b_abs : mg "abs" = none
  b_all : mg "all" = none
  b_any : mg "any" = none
  b_bool : mg "bool" = none
  b_enumerate : mg "enumerate" = none
  b_int : mg "int" = none
  b_isinstance : mg "isinstance" = none
  b_len : mg "len" = none
  b_list : mg "list" = none
  b_range : mg "range" = none
  b_repr : mg "repr" = none
  b_str : mg "str" = none
  b_tuple : mg "tuple" = none
  b_zip : mg "zip" = none
  i_FAR : ∃ t, mg "FAR" = some (.int 1000000000000 t)
  g_SIGNS : mg "SIGNS" = some (.ref (He.ga K "SIGNS"))
  t_SIGNS : ∀ G, SqT K G (He.ga K "SIGNS") [.str "<", .str "<=", .str "<>", .str "=", .str ">", .str ">="]
  g_PLACES : mg "PLACES" = some (.ref (He.ga K "PLACES"))
  t_PLACES : ∀ G, SqT K G (He.ga K "PLACES") [.str "head", .str "body", .str "foot"]
  g_OVER_RANGES : mg "OVER_RANGES" = some (.ref (He.ga K "OVER_RANGES"))
  t_OVER_RANGES : ∀ G, SqT K G (He.ga K "OVER_RANGES") [.str "low", .str "many", .str "top", .str "total"]
  k_Sheet : Cls K (He.ga K "Sheet")
  n_Sheet_its_columns : NoAttr K (He.ga K "Sheet") "its_columns"
  x_NoColumn : ExcF K "NoColumn" "column"
  g_NoColumn : mg "NoColumn" = some (.ref (He.ga K "NoColumn"))
  g_SheetError : mg "SheetError" = some (.ref (He.ga K "SheetError"))
  sm : (K.lookup sysModules).isSome = true
  q_Sheet_int : NoTy K (He.ga K "Sheet") .int
  q_Sheet_bool : NoTy K (He.ga K "Sheet") .bool
  q_Sheet_list : NoTy K (He.ga K "Sheet") .list
  q_Sheet_tuple : NoTy K (He.ga K "Sheet") .tuple
  s_Sheet : NoSub K (He.ga K "Sheet")
  o_Sheet : OwnC K (He.ga K "Sheet")
  g_Sheet : mg "Sheet" = some (.ref (He.ga K "Sheet"))
  e_NoColumn_NoColumn : PySem.W.exmOne K (.ref (He.ga K "NoColumn")) (.ref (He.ga K "NoColumn")) = some true
  e_NoColumn_SheetError : PySem.W.exmOne K (.ref (He.ga K "NoColumn")) (.ref (He.ga K "SheetError")) = some true
section
variable {P : Program} {w : World} {K : PySem.W.Frag} {mg : Str → Option Value} {base : Heap}
abbrev CTake (P : Program) (w : World) (K : PySem.W.Frag) (mg : Str → Option Value) (base : Heap) : Prop := FnX P w K mg base 1 "_law_take" 2 tTake
abbrev COne (P : Program) (w : World) (K : PySem.W.Frag) (mg : Str → Option Value) (base : Heap) : Prop := FnX P w K mg base 2 "_law_one" 2 tOne
theorem ok_bag (T : Tx K mg) {f : Addr} {fd : FuncData} (F : Fun K "_law_bag" "_law_bag" s__law_bag f fd) : FnOk P w K mg base CX0 1 f fd ["_law_script"] (spBag K) := by
  refine F.ok sc__law_bag (fun vs H Q E h => ?_) fun cdv A outer s H vs Q E hr want => ⟨t_bag K, ?_, pure_bag want⟩
  · obtain ⟨a, ns, rfl, _⟩ := h; rfl
  · exact pss_one (ps_ret (pe_lst (pa_cons pe_int (pa_cons pe_int (pa_cons pe_int (pa_cons
      (pe_lc (own := [("_law_cell", 1)]) (g := gName 1) (tt := tYes) rfl sc__law_bag.nd (pi_list (pe_slice sl_list (pv 0) po_none (po_some pe_int))) (blkOk_by (own := [("_law_cell", 1)]) (N := ["_law_script", "_law_cell"]) (sc := defScope s__law_bag) (by decide +kernel))
        (fun _ _ _ _ _ => pg_name (i := 1) sc__law_bag.nd rfl (Or.inl rfl)) (fun _ _ _ _ _ => pts_nil) (fun _ _ _ _ _ => pe_callB call_abs (by rfl) T.b_abs boot_abs' (pa_cons (pv 1) pa_nil))) pa_nil))))))
theorem ok_take (T : Tx K mg) (D0 : Dfn K mg "_law_take" s__law_take ["_law_bag_here", "_law_many"]) : CTake P w K mg base := by
  obtain ⟨f, fd, F, hm, hbd⟩ := D0.ex
  refine ⟨⟨f, fd, _, F.ok sc__law_take (fun vs H Q E h => h.1) fun cdv A outer s H vs Q E hr want => ⟨t_take K, ?_, pure_take want⟩, hm, F.kp, hbd⟩, mono_tTake, len_tTake⟩
  have I0 : ∀ {X : Cx} {e : Expr} {t : TE} {pos p : Pos} (hg : Gl X "int") (hmg : X.mg "int" = none) (h : PE X e t) (he : starEach [e] X.env = (false, eval e X.env) :: starEach [] X.env) (hpl : (backTo pos (starEach [] X.env)).any (·.1) = false), PE X (.Call (.Name "int" p) [e] [] pos) (tI1 t) :=
    fun hg hmg h he hpl => pe_callTy call_int1 hg hmg boot_int (pa_cons h pa_nil he) (by decide) (by decide) he hpl
  have nd := sc__law_take.nd
  exact pss_cons (ps_if (pt_cmpR op_eq (pe_ix ix_list (pv 0) pe_int (fun _ _ => rfl)) pe_int (nomark _))
      (pss_cons (ps_set (i := 2) nd rfl (.inl rfl) pe_int)
      (pss_cons (ps_if (pt_cmpR op_lt (pe_ix ix_list (pv 0) pe_int (fun _ _ => rfl)) (pe_callB call_len (by rfl) T.b_len PySem.boot_len (pa_cons (pe_ix ix_list (pv 0) pe_int (fun _ _ => rfl)) pa_nil)) (nomark _))
        (pss_one (ps_set (i := 2) nd rfl (.inl rfl) (pe_ix ix_list (pe_ix ix_list (pv 0) pe_int (fun _ _ => rfl)) (pe_ix ix_list (pv 0) pe_int (fun _ _ => rfl)) (fun _ _ => rfl)))) pss_nil)
      (pss_cons (ps_augS (pv 0) pe_int get_list pe_int ip_add set_list)
      (pss_cons (ps_if (pt_cmpR op_ge (pv 2) pe_int (nomark _)) (pss_one (ps_asg (pv 2) (pg_sub (pv 0) pe_int set_list))) pss_nil)
      (pss_cons (ps_set (i := 3) nd rfl (.inl rfl) (pe_op op_add (pe_op op_add (pe_op op_mul (pe_ix ix_list (pv 0) pe_int (fun _ _ => rfl)) pe_int) (pe_op op_modN (I0 (by rfl) T.b_int (pv 2) (by rfl) (by rfl)) pe_int)) (pe_op op_mul pe_int (pe_ix ix_list (pv 0) pe_int (fun _ _ => rfl)))))
      (pss_one (ps_asg (pe_op op_modN (I0 (by rfl) T.b_int (pv 3) (by rfl) (by rfl)) pe_int) (pg_sub (pv 0) pe_int set_list)))))))) pss_nil)
    (pss_cons (ps_if (pt_cmpR op_gt (pe_ix ix_list (pv 0) pe_int (fun _ _ => rfl)) pe_int (nomark _))
      (pss_cons (ps_set (i := 4) nd rfl (.inl rfl) (pe_op op_modN (I0 (by rfl) T.b_int (pe_ix ix_list (pv 0) pe_int (fun _ _ => rfl)) (by rfl) (by rfl)) (pv 1)))
      (pss_cons (ps_asg (pe_op op_fdivN (pe_i1i (I0 (by rfl) T.b_int (pe_ix ix_list (pv 0) pe_int (fun _ _ => rfl)) (by rfl) (by rfl))) (pv 1)) (pg_sub (pv 0) pe_int set_list))
      (pss_one (ps_ret (pv 4))))) pss_nil)
    (pss_cons (ps_set (i := 5) nd rfl (.inl rfl) (pe_op op_modN (I0 (by rfl) T.b_int (pe_op op_mul (pe_op op_add (pe_ix ix_list (pv 0) pe_int (fun _ _ => rfl)) pe_int) pe_int) (by rfl) (by rfl)) pe_int))
    (pss_cons (ps_set (i := 6) nd rfl (.inl rfl) (pe_op op_modN (I0 (by rfl) T.b_int (pe_op op_mul (pe_op op_modN (I0 (by rfl) T.b_int (pe_op op_mul (pv 5) (pv 5)) (by rfl) (by rfl)) pe_int) pe_int) (by rfl) (by rfl)) pe_int))
    (pss_one (ps_ret (pe_op op_modN (I0 (by rfl) T.b_int (pe_op op_fdivN (pv 6) pe_int) (by rfl) (by rfl)) (pv 1)))))))
theorem ok_one (T : Tx K mg) (D0 : Dfn K mg "_law_one" s__law_one ["_law_bag_here", "_law_some"]) (c__law_take : CTake P w K mg base := by assumption) : COne P w K mg base := by
  refine FnX.of D0 sc__law_one rfl mono_tOne len_tOne fun f cdv A outer s H E hr => ⟨_, (pds_one (pds_ret (pd_ixV (pdv_var (pv 1)) (pdv_of (pd_fn c__law_take (hr.mono (by omega)) (by rfl) (pda_cons (pd_var (pv 0)) (pda_cons (pd_lenV (by rfl) T.b_len (pdv_var (pv 1))) pda_nil)))) (fun _ _ => rfl)))), fun rs Q h => ?_⟩
  obtain ⟨xs, rfl, h1, h2, q⟩ := tOne_in h
  refine ⟨by omega, by omega, fun d h3 h4 => ?_⟩
  have hd : d.toNat < xs.length := by omega
  have e : atI xs d = some xs[d.toNat] := atI_of (by omega) (List.getElem?_eq_getElem hd)
  exact ⟨_, e, q _ _ (List.getElem?_eq_getElem hd)⟩
def SameE (d e : D) : Prop := d = e ∧ ((Eqd 60 d ∧ conB d = true ∧ ShowM d) ∨ ∃ i : Int, d = .int i ∧ i.natAbs < 10 ^ 78)
abbrev CAlikeS (P : Program) (w : World) (K : PySem.W.Frag) (mg : Str → Option Value) (base : Heap) : Prop := FnXG P w K mg base 1 "_law_alike" 2 (tf2 SameE fun _ _ => .dt (.bl true))
theorem ok_alikeS (T : Tx K mg) (D0 : Dfn K mg "_law_alike" s__law_alike ["_law_found", "_law_due"]) : CAlikeS P w K mg base := by
  refine FnXG.of D0 sc__law_alike rfl mono_tf2 len_tf2 fun f cdv A outer s H E gd hr => ⟨_, (pds_one (pds_ret (pd_and (pd_eqSI (u65 hr) (pd_var (pv 0)) (pd_var (pv 1))) (pd_one (pd_eq hr.units (pd_reprM T.sm gd (u150 hr) (by rfl) T.b_repr (pda_cons (pd_var (pv 0)) pda_nil)) (pd_reprM T.sm gd (u150 hr) (by rfl) T.b_repr (pda_cons (pd_var (pv 1)) pda_nil))))))), fun rs Q h => ?_⟩
  obtain ⟨d, e, rfl, ⟨rfl, hd⟩, q⟩ := tf2_in h
  rcases hd with ⟨h1, h2, h3⟩ | ⟨i, rfl, hi⟩
  · cases d <;> first | (cases h2; done) | skip
    all_goals
      refine ⟨rfl, h1, h2, ?_⟩
      refine if_yes rfl ?_
      refine ⟨h3, h3, fEq_str ?_⟩
      exact q
  · have so : ShowM (.int i) := showM_of rfl hi (by show 80 ≤ sizeLine; decide) (by show 0 ≤ 100; omega)
    refine if_yes (beq_self_eq_true i) ⟨so, so, fEq_str ?_⟩
    exact q
end
end K20
set_option Elab.async false
set_option linter.all false
set_option maxRecDepth 100000
set_option maxHeartbeats 4000000
namespace K20
open PySem PySem.Spec PyProof.Rows L2 DL
def must : List He.Defn := []
def fn : List He.DefD := [dfd "_wall" s__wall, dfd "is_integer" s_is_integer, dfd "is_number" s_is_number, dfd "is_column_part" s_is_column_part, dfd "is_row_part" s_is_row_part, dfd "is_name" s_is_name, dfd "is_limit" s_is_limit, dfd "is_range" s_is_range, dfd "are_formulas" s_are_formulas, dfd "is_long_formula" s_is_long_formula, dfd "is_formula" s_is_formula, dfd "parts" s_parts, dfd "reads" s_reads, dfd "read_fits" s_read_fits, dfd "has_input" s_has_input, dfd "fits" s_fits, dfd "is_row_of_formulas" s_is_row_of_formulas, dfd "_law_bag" s__law_bag, dfd "_law_take" s__law_take, dfd "_law_one" s__law_one, dfd "_law_alike" s__law_alike, dfd "_law_nested" s__law_nested, dfd "_law_odd" s__law_odd, dfd "_law_number" s__law_number, dfd "_law_column_part" s__law_column_part, dfd "_law_range" s__law_range, dfd "_law_name" s__law_name, dfd "_law_formula" s__law_formula, dfd "_law_whole_formula" s__law_whole_formula, dfd "_law_is_whole" s__law_is_whole, dfd "_law_sheet" s__law_sheet, dfd "_law_heard" s__law_heard, dfd "_law_right" s__law_right, dfd "law" s_law, ⟨("NoColumn", some "__init__"), "__init__", "NoColumn.__init__", defArgs s_NoColumn___init__, defBody s_NoColumn___init__, defScope s_NoColumn___init__, [], []⟩, ⟨("Sheet", some "__init__"), "__init__", "Sheet.__init__", defArgs s_Sheet___init__, defBody s_Sheet___init__, defScope s_Sheet___init__, [], []⟩, ⟨("Sheet", some "columns"), "columns", "Sheet.columns", defArgs s_Sheet_columns, defBody s_Sheet_columns, defScope s_Sheet_columns, [], []⟩, ⟨("Sheet", some "has_column"), "has_column", "Sheet.has_column", defArgs s_Sheet_has_column, defBody s_Sheet_has_column, defScope s_Sheet_has_column, [], []⟩, ⟨("Sheet", some "__len__"), "__len__", "Sheet.__len__", defArgs s_Sheet___len__, defBody s_Sheet___len__, defScope s_Sheet___len__, [], []⟩, ⟨("Sheet", some "__getitem__"), "__getitem__", "Sheet.__getitem__", defArgs s_Sheet___getitem__, defBody s_Sheet___getitem__, defScope s_Sheet___getitem__, [], []⟩, ⟨("Sheet", some "__eq__"), "__eq__", "Sheet.__eq__", defArgs s_Sheet___eq__, defBody s_Sheet___eq__, defScope s_Sheet___eq__, [], []⟩]
def fa : List He.Fa := [.glo "_wall", .glo "is_integer", .glo "is_number", .glo "is_column_part", .glo "is_row_part", .glo "is_name", .glo "is_limit", .glo "is_range", .glo "are_formulas", .glo "is_long_formula", .glo "is_formula", .glo "parts", .glo "reads", .glo "read_fits", .glo "has_input", .glo "fits", .glo "is_row_of_formulas", .glo "_law_bag", .glo "_law_take", .glo "_law_one", .glo "_law_alike", .glo "_law_nested", .glo "_law_odd", .glo "_law_number", .glo "_law_column_part", .glo "_law_range", .glo "_law_name", .glo "_law_formula", .glo "_law_whole_formula", .glo "_law_is_whole", .glo "_law_sheet", .glo "_law_heard", .glo "_law_right", .glo "law", .free "TypeError", .free "ValueError", .free "abs", .free "all", .free "any", .free "bool", .free "enumerate", .free "int", .free "isinstance", .free "len", .free "list", .free "range", .free "repr", .free "str", .free "tuple", .free "zip", .int "FAR" 1000000000000, .glo "SIGNS", .glo "PLACES", .glo "OVER_RANGES", .cls "Sheet", .noat "Sheet" "its_columns", .mkr "Sheet", .glo "Sheet", .meth "Sheet" "columns", .meth "Sheet" "has_column", .meth "Sheet" "__len__", .meth "Sheet" "__getitem__", .meth "Sheet" "__eq__", .glo "NoColumn", .glo "SheetError", .exm "NoColumn" "NoColumn" true, .exm "NoColumn" "SheetError" true]
def chk (K : PySem.W.Frag) : Bool := (fa.all fun f => f.ok K) && He.tupB K "SIGNS" [.str "<", .str "<=", .str "<>", .str "=", .str ">", .str ">="] && He.tupB K "PLACES" [.str "head", .str "body", .str "foot"] && He.tupB K "OVER_RANGES" [.str "low", .str "many", .str "top", .str "total"] && excB K "NoColumn" "column" && ownB K (He.ga K "Sheet") && noTyB K (He.ga K "Sheet") .int && noTyB K (He.ga K "Sheet") .bool && noTyB K (He.ga K "Sheet") .list && noTyB K (He.ga K "Sheet") .tuple && noSubB K (He.ga K "Sheet") && (K.lookup sysModules).isSome
abbrev R : PySem.W.OpenRow := PySem.W.OpenLaw.row PySem.Challenge.rw_longsheet_k20_sheets_told
abbrev hk : PySem.W.Hook := hookYT 4 chk fn must
def ob (s : PySem.W.SharedT) : AlT := obsYT 4 chk fn must (HandSHeadRun.getT s)
theorem ob_eq (s : PySem.W.SharedT) : ob s = hk.obs s.abs := obsYT_eq (HandSHeadRun.getT_eq s)
def loose : List PySem.Str := [("_wall" : PySem.Str), ("SheetError" : PySem.Str), ("Wrong" : PySem.Str), ("NoColumn" : PySem.Str), ("NoFit" : PySem.Str), ("FAR" : PySem.Str), ("is_integer" : PySem.Str), ("is_number" : PySem.Str), ("is_column_part" : PySem.Str), ("is_row_part" : PySem.Str), ("is_name" : PySem.Str), ("is_limit" : PySem.Str), ("is_range" : PySem.Str), ("SIGNS" : PySem.Str), ("PLACES" : PySem.Str), ("OVER_RANGES" : PySem.Str), ("are_formulas" : PySem.Str), ("is_long_formula" : PySem.Str), ("is_formula" : PySem.Str), ("parts" : PySem.Str), ("reads" : PySem.Str), ("read_fits" : PySem.Str), ("has_input" : PySem.Str), ("fits" : PySem.Str), ("is_row_of_formulas" : PySem.Str), ("Sheet" : PySem.Str), ("_law_bag" : PySem.Str), ("_law_take" : PySem.Str), ("_law_one" : PySem.Str), ("_law_alike" : PySem.Str), ("_law_nested" : PySem.Str), ("_law_odd" : PySem.Str), ("_law_number" : PySem.Str), ("_law_column_part" : PySem.Str), ("_law_range" : PySem.Str), ("_law_name" : PySem.Str), ("_law_formula" : PySem.Str), ("_law_whole_formula" : PySem.Str), ("_law_is_whole" : PySem.Str), ("_law_sheet" : PySem.Str), ("_law_heard" : PySem.Str), ("_law_right" : PySem.Str)]
theorem map_pair {σ α β : Type} {o : Option σ} {f : σ → α} {g : σ → β} {a : α} {b : β} (x : o.map f = some a) (y : o.map g = some b) : o.map (fun s => (f s, g s)) = some (a, b) := by
  cases o with
  | none => cases x
  | some s => cases x; cases y; rfl
theorem map_and {σ : Type} {o : Option σ} {f g : σ → Bool} (x : o.map f = some true) (y : o.map g = some true) : o.map (fun s => f s && g s) = some true := by
  cases o with
  | none => cases x
  | some s =>
    have x1 : f s = true := Option.some.inj x
    have y1 : g s = true := Option.some.inj y
    show some (f s && g s) = some true
    rw [x1, y1]; rfl
open PySem.W PySem.Calls HandSHeadRun in
theorem run1 (w : World) (os : OsState) : (endF (stepQ (denQ tabQ) R.prog w) 6000 R.prog w os).map (fun s => looksF R.prog (boot_heap w.params) s.abs) = some (true) := by
  kernel_rfl
open PySem.W PySem.Calls HandSHeadRun in
theorem run2 (w : World) (os : OsState) : (endF (stepQ (denQ tabQ) R.prog w) 6000 R.prog w os).map (fun s => seenQ (view R.prog [48]) loose (importedModules R.prog.main.body) (fun s => xlAt (view R.prog [48]) [] s && recOk R.toRowW.records s) s.abs) = some (openGood (view R.prog [48]) loose) := by
  kernel_rfl
open PySem.W PySem.Calls HandSHeadRun in
theorem run3 (w : World) (os : OsState) : (endF (stepQ (denQ tabQ) R.prog w) 6000 R.prog w os).map (fun s => chk (frY 4 (getT s))) = some (true) := by
  kernel_rfl
open PySem.W PySem.Calls HandSHeadRun in
theorem run4 (w : World) (os : OsState) : (endF (stepQ (denQ tabQ) R.prog w) 6000 R.prog w os).map (fun s => fn.all fun d => d.ok (frY 4 (getT s))) = some (true) := by
  kernel_rfl
open PySem.W PySem.Calls HandSHeadRun in
theorem run5 (w : World) (os : OsState) : (endF (stepQ (denQ tabQ) R.prog w) 6000 R.prog w os).map (fun s => fn.map fun d => He.fnW (frY 4 (getT s)) d.at_) = some ((He.valD fn).2) := by
  kernel_rfl
open PySem.W PySem.Calls HandSHeadRun in
theorem run6 (w : World) (os : OsState) : (endF (stepQ (denQ tabQ) R.prog w) 6000 R.prog w os).map (fun s => tabsEB must (getT s) (frY 4 (getT s))) = some (true) := by
  kernel_rfl
theorem run (w : World) : HandSHeadRun.RunEq R (PySem.W.view R.prog [48]) hk ob 6000 loose w := fun os => map_pair (run1 w os) (map_pair (run2 w os) (map_pair (map_pair (map_and (run3 w os) (run4 w os)) (run5 w os)) (run6 w os)))
end K20
set_option Elab.async false
set_option linter.all false
set_option maxRecDepth 100000
set_option maxHeartbeats 4000000
namespace K20
open PySem PySem.Spec PyProof.Rows L2 DL
section
variable {P : Program} {w : World} {K : PySem.W.Frag} {mg : Str → Option Value} {base : Heap}
abbrev C_is_integer (P : Program) (w : World) (K : PySem.W.Frag) (mg : Str → Option Value) (base : Heap) : Prop := PF P w K mg base 1 "is_integer" (fun d => .dt (.bl (isInt d)))
abbrev C_is_column_part (P : Program) (w : World) (K : PySem.W.Frag) (mg : Str → Option Value) (base : Heap) : Prop := PF P w K mg base 2 "is_column_part" (fun d => .dt (.bl (isPart d)))
abbrev C_is_row_part (P : Program) (w : World) (K : PySem.W.Frag) (mg : Str → Option Value) (base : Heap) : Prop := PF P w K mg base 2 "is_row_part" (fun d => .dt (.bl (isRow d)))
abbrev C_is_limit (P : Program) (w : World) (K : PySem.W.Frag) (mg : Str → Option Value) (base : Heap) : Prop := PF P w K mg base 2 "is_limit" (fun d => .dt (.bl (isLim d)))
abbrev C_is_name (P : Program) (w : World) (K : PySem.W.Frag) (mg : Str → Option Value) (base : Heap) : Prop := PF P w K mg base 3 "is_name" (fun d => .dt (.bl (isName d)))
abbrev C_is_range (P : Program) (w : World) (K : PySem.W.Frag) (mg : Str → Option Value) (base : Heap) : Prop := PF P w K mg base 3 "is_range" (fun d => .dt (.bl (isRange d)))
abbrev C_is_number (P : Program) (w : World) (K : PySem.W.Frag) (mg : Str → Option Value) (base : Heap) : Prop := PF P w K mg base 2 "is_number" (fun d => .dt (.bl (isNum d)))
theorem ok_is_integer (T : Tx K mg) (D0 : Dfn K mg "is_integer" s_is_integer ["thing"]) : C_is_integer P w K mg base := by
  refine FnX.of D0 sc_is_integer rfl mono_tf1 len_tf1 fun f cdv A outer s H E hr => ⟨_, (pds_one (pds_ret (pd_and (pd_isi .int (by rfl) T.b_isinstance (by rfl) T.b_int boot_intT (pd_var (pv 0))) (pd_one (pd_not (pd_isi .bool (by rfl) T.b_isinstance (by rfl) T.b_bool boot_boolT (pd_var (pv 0)))))))), fun rs Q h => ?_⟩
  obtain ⟨d, rfl, hd, q⟩ := tf1_in h
  have hd := plain_ins hd
  refine ⟨hd, ?_⟩
  cases d <;> first | exact q | exact ⟨hd, q⟩
theorem ok_is_limit (T : Tx K mg) (D0 : Dfn K mg "is_limit" s_is_limit ["thing"]) (c_is_integer : C_is_integer P w K mg base := by assumption) : C_is_limit P w K mg base := by
  refine FnX.of D0 sc_is_limit rfl mono_tf1 len_tf1 fun f cdv A outer s H E hr => ⟨_, (pds_one (pds_ret (pd_or (pd_isN (pd_var (pv 0)) (pd_c pe_non fun _ => .non)) (pd_one (pd_fn c_is_integer (hr.mono (by omega)) (by rfl) (pda_cons (pd_var (pv 0)) pda_nil)))))), fun rs Q h => ?_⟩
  obtain ⟨d, rfl, hd, q⟩ := tf1_in h
  cases d <;> first | exact q | exact ⟨hd, q⟩
theorem ok_is_column_part (T : Tx K mg) (D0 : Dfn K mg "is_column_part" s_is_column_part ["thing"]) (c_is_integer : C_is_integer P w K mg base := by assumption) : C_is_column_part P w K mg base := by
  refine FnX.of D0 sc_is_column_part rfl mono_tf1 len_tf1 fun f cdv A outer s H E hr => ⟨_, (pds_cons (pds_if (PDW.t (pdw_or (pdt_not (pdt_b (pd_isi .tuple (by rfl) T.b_isinstance (by rfl) T.b_tuple boot_tupleT (pd_var (pv 0))))) (pdw_or (pdt_not (pdt_chain op_le op_le mono_fLe mono_fLe (opS_I0 fun _ _ _ => .bl _) (opS_I0 fun _ _ _ => .bl _) (pd_c pe_int fun _ => .int _) (pd_lenV (by rfl) T.b_len (pdv_var (pv 0))) (pd_c pe_int fun _ => .int _))) (pdw_or1 (pdt_not (pdt_b (pd_isi .str (by rfl) T.b_isinstance (by rfl) T.b_str boot_strT (pd_ixV (pdv_var (pv 0)) (pdv_of (pd_c pe_int fun _ => .int _)) (fun _ _ => rfl))))))))) (pds_one (pds_ret (pd_c pe_bl fun _ => .bl _))) pds_nil)
      (pds_cons (pds_if (pdt_eq hr.units (pd_lenV (by rfl) T.b_len (pdv_var (pv 0))) (pd_c pe_int fun _ => .int _)) (pds_one (pds_ret (pd_eq hr.units (pd_ixV (pdv_var (pv 0)) (pdv_of (pd_c pe_int fun _ => .int _)) (fun _ _ => rfl)) (pd_c pe_str fun _ => .str _)))) pds_nil)
      (pds_one (pds_ret (pd_and (pd_fn c_is_integer (hr.mono (by omega)) (by rfl) (pda_cons (pd_ixV (pdv_var (pv 0)) (pdv_of (pd_c pe_int fun _ => .int _)) (fun _ _ => rfl)) pda_nil)) (pd_one (pd_or (pd_eq hr.units (pd_ixV (pdv_var (pv 0)) (pdv_of (pd_c pe_int fun _ => .int _)) (fun _ _ => rfl)) (pd_c pe_str fun _ => .str _)) (pd_one (pd_and (pd_eq hr.units (pd_ixV (pdv_var (pv 0)) (pdv_of (pd_c pe_int fun _ => .int _)) (fun _ _ => rfl)) (pd_c pe_str fun _ => .str _)) (pd_one (pd_ge (pd_ixV (pdv_var (pv 0)) (pdv_of (pd_c pe_int fun _ => .int _)) (fun _ _ => rfl)) (pd_c pe_int fun _ => .int _)))))))))))), fun rs Q h => ?_⟩
  obtain ⟨d, rfl, hd, q⟩ := tf1_in h
  refine ⟨plain_ins hd, ?_⟩
  cases d <;> first | exact q | skip
  rename_i xs
  match xs, hd, q with
  | [], hd, q => exact q
  | [a], hd, q =>
    refine ⟨a, atI_zero, plain_ins (plain_cons hd).1, ?_⟩
    cases a <;> first | exact q | exact ⟨rfl, rfl, _, atI_zero, q⟩
  | [a, b], hd, q =>
    obtain ⟨ha, hb⟩ := plain_cons hd
    have hb := (plain_cons hb).1
    refine ⟨a, atI_zero, plain_ins ha, ?_⟩
    cases a <;> first | exact q | skip
    rename_i k
    refine ⟨rfl, rfl, b, atI_of (j := 1) rfl rfl, hb, ?_⟩
    cases b <;> first | exact q | skip
    rename_i i _
    refine ⟨.str k, atI_zero, ?_⟩
    refine or_in (Q := qb Q) q fun q => ⟨.str k, atI_zero, ?_⟩
    refine and_in (Q := qb Q) q fun q => ⟨.int i, atI_of (j := 1) rfl rfl, ?_⟩
    exact q
  | a :: b :: c :: ds, hd, q =>
    refine if_no rfl ?_
    refine if_yes (decide_eq_true (by simp only [List.length_cons]; omega) : decide ((1 : Int) ≤ (((a :: b :: c :: ds).length : Nat) : Int)) = true) ?_
    refine fLe_no (n := ((a :: b :: c :: ds).length : Nat)) (m := 2) (by simp only [List.length_cons]; omega) ?_
    have e : isPart (.tup (a :: b :: c :: ds)) = false := by cases a <;> first | rfl | (cases b <;> rfl)
    rw [e] at q
    exact q
theorem ok_is_row_part (T : Tx K mg) (D0 : Dfn K mg "is_row_part" s_is_row_part ["thing"]) (c_is_integer : C_is_integer P w K mg base := by assumption) : C_is_row_part P w K mg base := by
  refine FnX.of D0 sc_is_row_part rfl mono_tf1 len_tf1 fun f cdv A outer s H E hr => ⟨_, (pds_cons (pds_if (PDW.t (pdw_or (pdt_not (pdt_b (pd_isi .tuple (by rfl) T.b_isinstance (by rfl) T.b_tuple boot_tupleT (pd_var (pv 0))))) (pdw_or (pdt_not (pdt_chain op_le op_le mono_fLe mono_fLe (opS_I0 fun _ _ _ => .bl _) (opS_I0 fun _ _ _ => .bl _) (pd_c pe_int fun _ => .int _) (pd_lenV (by rfl) T.b_len (pdv_var (pv 0))) (pd_c pe_int fun _ => .int _))) (pdw_or1 (pdt_not (pdt_b (pd_isi .str (by rfl) T.b_isinstance (by rfl) T.b_str boot_strT (pd_ixV (pdv_var (pv 0)) (pdv_of (pd_c pe_int fun _ => .int _)) (fun _ _ => rfl))))))))) (pds_one (pds_ret (pd_c pe_bl fun _ => .bl _))) pds_nil)
      (pds_cons (pds_if (pdt_eq hr.units (pd_lenV (by rfl) T.b_len (pdv_var (pv 0))) (pd_c pe_int fun _ => .int _)) (pds_one (pds_ret (pd_in (pd_ixV (pdv_var (pv 0)) (pdv_of (pd_c pe_int fun _ => .int _)) (fun _ _ => rfl)) (pd_tup (pda_cons (pd_c pe_str fun _ => .str _) (pda_cons (pd_c pe_str fun _ => .str _) pda_nil)))))) pds_nil)
      (pds_one (pds_ret (pd_and (pd_fn c_is_integer (hr.mono (by omega)) (by rfl) (pda_cons (pd_ixV (pdv_var (pv 0)) (pdv_of (pd_c pe_int fun _ => .int _)) (fun _ _ => rfl)) pda_nil)) (pd_one (pd_or (pd_eq hr.units (pd_ixV (pdv_var (pv 0)) (pdv_of (pd_c pe_int fun _ => .int _)) (fun _ _ => rfl)) (pd_c pe_str fun _ => .str _)) (pd_one (pd_and (pd_eq hr.units (pd_ixV (pdv_var (pv 0)) (pdv_of (pd_c pe_int fun _ => .int _)) (fun _ _ => rfl)) (pd_c pe_str fun _ => .str _)) (pd_one (pd_ge (pd_ixV (pdv_var (pv 0)) (pdv_of (pd_c pe_int fun _ => .int _)) (fun _ _ => rfl)) (pd_c pe_int fun _ => .int _)))))))))))), fun rs Q h => ?_⟩
  obtain ⟨d, rfl, hd, q⟩ := tf1_in h
  refine ⟨plain_ins hd, ?_⟩
  cases d <;> first | exact q | skip
  rename_i xs
  match xs, hd, q with
  | [], hd, q => exact q
  | [a], hd, q =>
    refine ⟨a, atI_zero, plain_ins (plain_cons hd).1, ?_⟩
    cases a <;> first | exact q | exact ⟨rfl, rfl, _, atI_zero, (by decide : (2 : Nat) ≤ sizeLine), q⟩
  | [a, b], hd, q =>
    obtain ⟨ha, hb⟩ := plain_cons hd
    have hb := (plain_cons hb).1
    refine ⟨a, atI_zero, plain_ins ha, ?_⟩
    cases a <;> first | exact q | skip
    rename_i k
    refine ⟨rfl, rfl, b, atI_of (j := 1) rfl rfl, hb, ?_⟩
    cases b <;> first | exact q | skip
    rename_i i _
    refine ⟨.str k, atI_zero, ?_⟩
    refine or_in (Q := qb Q) q fun q => ⟨.str k, atI_zero, ?_⟩
    refine and_in (Q := qb Q) q fun q => ⟨.int i, atI_of (j := 1) rfl rfl, ?_⟩
    exact q
  | a :: b :: c :: ds, hd, q =>
    refine if_no rfl ?_
    refine if_yes (decide_eq_true (by simp only [List.length_cons]; omega) : decide ((1 : Int) ≤ (((a :: b :: c :: ds).length : Nat) : Int)) = true) ?_
    refine fLe_no (n := ((a :: b :: c :: ds).length : Nat)) (m := 2) (by simp only [List.length_cons]; omega) ?_
    have e : isRow (.tup (a :: b :: c :: ds)) = false := by cases a <;> first | rfl | (cases b <;> rfl)
    rw [e] at q
    exact q
theorem ok_is_name (T : Tx K mg) (D0 : Dfn K mg "is_name" s_is_name ["thing"]) (c_is_column_part : C_is_column_part P w K mg base := by assumption) (c_is_row_part : C_is_row_part P w K mg base := by assumption) : C_is_name P w K mg base := by
  refine FnX.of D0 sc_is_name rfl mono_tf1 len_tf1 fun f cdv A outer s H E hr => ⟨_, (pds_cons (pds_if (PDW.t (pdw_or (pdt_not (pdt_b (pd_isi .tuple (by rfl) T.b_isinstance (by rfl) T.b_tuple boot_tupleT (pd_var (pv 0))))) (pdw_or (pdt_ne hr.units (pd_lenV (by rfl) T.b_len (pdv_var (pv 0))) (pd_c pe_int fun _ => .int _)) (pdw_or (pdt_not (pdt_b (pd_isi .str (by rfl) T.b_isinstance (by rfl) T.b_str boot_strT (pd_ixV (pdv_var (pv 0)) (pdv_of (pd_c pe_int fun _ => .int _)) (fun _ _ => rfl))))) (pdw_or1 (pdt_ne hr.units (pd_ixV (pdv_var (pv 0)) (pdv_of (pd_c pe_int fun _ => .int _)) (fun _ _ => rfl)) (pd_c pe_str fun _ => .str _))))))) (pds_one (pds_ret (pd_c pe_bl fun _ => .bl _))) pds_nil)
      (pds_one (pds_ret (pd_and (pd_fn c_is_column_part (hr.mono (by omega)) (by rfl) (pda_cons (pd_ixV (pdv_var (pv 0)) (pdv_of (pd_c pe_int fun _ => .int _)) (fun _ _ => rfl)) pda_nil)) (pd_one (pd_fn c_is_row_part (hr.mono (by omega)) (by rfl) (pda_cons (pd_ixV (pdv_var (pv 0)) (pdv_of (pd_c pe_int fun _ => .int _)) (fun _ _ => rfl)) pda_nil))))))), fun rs Q h => ?_⟩
  obtain ⟨d, rfl, hd, q⟩ := tf1_in h
  refine ⟨plain_ins hd, ?_⟩
  cases d <;> first | exact q | skip
  rename_i xs
  by_cases hl : xs.length = 3
  · match xs, hl, hd, q with
    | [a, b, c], hl, hd, q =>
      obtain ⟨ha, hb⟩ := plain_cons hd
      obtain ⟨hb, hc⟩ := plain_cons hb
      have hc := (plain_cons hc).1
      refine ⟨rfl, rfl, a, atI_zero, plain_ins ha, ?_⟩
      cases a with
      | str k =>
        refine ⟨_, atI_zero, ?_⟩
        have q' : qb Q (decide (k = "name") && (isPart b && isRow c)) := q
        cases e : decide (k = "name") with
        | false => rw [e] at q'; refine if_yes (by rw [e]; rfl) q'
        | true =>
          rw [e] at q'
          refine if_no (by rw [e]; rfl) ⟨b, atI_of (j := 1) rfl rfl, hb, ?_⟩
          exact and_in (Q := qb Q) q' fun q => ⟨c, atI_of (j := 2) rfl rfl, hc, q⟩
      | _ => exact q
  · rw [name_len hl] at q
    exact ⟨rfl, rfl, if_yes (ne_len (n := 3) hl) q⟩
theorem ok_is_range (T : Tx K mg) (D0 : Dfn K mg "is_range" s_is_range ["thing"]) (c_is_column_part : C_is_column_part P w K mg base := by assumption) (c_is_limit : C_is_limit P w K mg base := by assumption) : C_is_range P w K mg base := by
  refine FnX.of D0 sc_is_range rfl mono_tf1 len_tf1 fun f cdv A outer s H E hr => ⟨_, (pds_cons (pds_if (PDW.t (pdw_or (pdt_not (pdt_b (pd_isi .tuple (by rfl) T.b_isinstance (by rfl) T.b_tuple boot_tupleT (pd_var (pv 0))))) (pdw_or (pdt_ne hr.units (pd_lenV (by rfl) T.b_len (pdv_var (pv 0))) (pd_c pe_int fun _ => .int _)) (pdw_or (pdt_not (pdt_b (pd_isi .str (by rfl) T.b_isinstance (by rfl) T.b_str boot_strT (pd_ixV (pdv_var (pv 0)) (pdv_of (pd_c pe_int fun _ => .int _)) (fun _ _ => rfl))))) (pdw_or1 (pdt_ne hr.units (pd_ixV (pdv_var (pv 0)) (pdv_of (pd_c pe_int fun _ => .int _)) (fun _ _ => rfl)) (pd_c pe_str fun _ => .str _))))))) (pds_one (pds_ret (pd_c pe_bl fun _ => .bl _))) pds_nil)
      (pds_one (pds_ret (pd_and (pd_fn c_is_column_part (hr.mono (by omega)) (by rfl) (pda_cons (pd_ixV (pdv_var (pv 0)) (pdv_of (pd_c pe_int fun _ => .int _)) (fun _ _ => rfl)) pda_nil)) (pd_and (pd_fn c_is_limit (hr.mono (by omega)) (by rfl) (pda_cons (pd_ixV (pdv_var (pv 0)) (pdv_of (pd_c pe_int fun _ => .int _)) (fun _ _ => rfl)) pda_nil)) (pd_one (pd_fn c_is_limit (hr.mono (by omega)) (by rfl) (pda_cons (pd_ixV (pdv_var (pv 0)) (pdv_of (pd_c pe_int fun _ => .int _)) (fun _ _ => rfl)) pda_nil)))))))), fun rs Q h => ?_⟩
  obtain ⟨d, rfl, hd, q⟩ := tf1_in h
  refine ⟨plain_ins hd, ?_⟩
  cases d <;> first | exact q | skip
  rename_i xs
  by_cases hl : xs.length = 4
  · match xs, hl, hd, q with
    | [a, b, c, d], hl, hd, q =>
      obtain ⟨ha, hb⟩ := plain_cons hd
      obtain ⟨hb, hc⟩ := plain_cons hb
      obtain ⟨hc, he⟩ := plain_cons hc
      have he := (plain_cons he).1
      refine ⟨rfl, rfl, a, atI_zero, plain_ins ha, ?_⟩
      cases a with
      | str k =>
        refine ⟨_, atI_zero, ?_⟩
        have q' : qb Q (decide (k = "rows") && (isPart b && (isLim c && isLim d))) := q
        cases e : decide (k = "rows") with
        | false => rw [e] at q'; refine if_yes (by rw [e]; rfl) q'
        | true =>
          rw [e] at q'
          refine if_no (by rw [e]; rfl) ⟨b, atI_of (j := 1) rfl rfl, hb, ?_⟩
          exact and_in (Q := qb Q) q' fun q => ⟨c, atI_of (j := 2) rfl rfl, hc, and_in (Q := qb Q) q fun q => ⟨d, atI_of (j := 3) rfl rfl, he, q⟩⟩
      | _ => exact q
  · rw [range_len hl] at q
    exact ⟨rfl, rfl, if_yes (ne_len (n := 4) hl) q⟩
theorem ok_is_number (T : Tx K mg) (D0 : Dfn K mg "is_number" s_is_number ["thing"]) (c_is_integer : C_is_integer P w K mg base := by assumption) : C_is_number P w K mg base := by
  refine FnX.of D0 sc_is_number rfl mono_tf1 len_tf1 fun f cdv A outer s H E hr => ⟨_, (pds_one (pds_ret (pd_and (pd_fn c_is_integer (hr.mono (by omega)) (by rfl) (pda_cons (pd_var (pv 0)) pda_nil)) (pd_one (pd_chain op_le op_le mono_fLe mono_fLe (opS_I0 fun _ _ _ => .bl _) (opS_I0 fun _ _ _ => .bl _) (pd_neg (pd_gint T.i_FAR (by rfl))) (pd_var (pv 0)) (pd_gint T.i_FAR (by rfl))))))), fun rs Q h => ?_⟩
  obtain ⟨d, rfl, hd, q⟩ := tf1_in h
  refine ⟨hd, ?_⟩
  cases d <;> first | exact q | skip
  rename_i i
  refine if_yes rfl ?_
  exact and_in (Q := qb Q) q fun q => q
end
end K20
set_option Elab.async false
set_option linter.all false
set_option maxRecDepth 100000
set_option maxHeartbeats 4000000
namespace K20
open PySem PySem.Spec PyProof.Rows L2 DL
section
variable {P : Program} {w : World} {K : PySem.W.Frag} {mg : Str → Option Value} {base : Heap}
abbrev C_parts (P : Program) (w : World) (K : PySem.W.Frag) (mg : Str → Option Value) (base : Heap) : Prop := FnX P w K mg base 1 "parts" 1 (tFm (fun f => f.wf ∧ f.parts.length ≤ 100000) fun f => .ol (f.parts.map Fm.d))
theorem ok_parts (T : Tx K mg) (D0 : Dfn K mg "parts" s_parts ["formula"]) : C_parts P w K mg base := by
  refine FnX.of D0 sc_parts rfl mono_tFm len_tFm fun f cdv A outer s H E hr => ⟨_, (pds_cons (pds_if (pdt_in (pd_ixV (pdv_var (pv 0)) (pdv_of (pd_c pe_int fun _ => .int _)) (fun _ _ => rfl)) (pd_tup (pda_cons (pd_c pe_str fun _ => .str _) (pda_cons (pd_c pe_str fun _ => .str _) (pda_cons (pd_c pe_str fun _ => .str _) pda_nil))))) (pds_one (pds_ret (pd_list (by rfl) T.b_list (pda_cons (pd_ixV (pdv_var (pv 0)) (pdv_of (pd_c pe_int fun _ => .int _)) (fun _ _ => rfl)) pda_nil)))) pds_nil)
      (pds_cons (pds_if (pdt_eq hr.units (pd_ixV (pdv_var (pv 0)) (pdv_of (pd_c pe_int fun _ => .int _)) (fun _ _ => rfl)) (pd_c pe_str fun _ => .str _)) (pds_one (pds_ret (pd_lst (pda_cons (pd_ixV (pdv_var (pv 0)) (pdv_of (pd_c pe_int fun _ => .int _)) (fun _ _ => rfl)) pda_nil)))) pds_nil)
      (pds_cons (pds_if (pdt_eq hr.units (pd_ixV (pdv_var (pv 0)) (pdv_of (pd_c pe_int fun _ => .int _)) (fun _ _ => rfl)) (pd_c pe_str fun _ => .str _)) (pds_one (pds_ret (pd_lst (pda_cons (pd_ixV (pdv_var (pv 0)) (pdv_of (pd_c pe_int fun _ => .int _)) (fun _ _ => rfl)) (pda_cons (pd_ixV (pdv_var (pv 0)) (pdv_of (pd_c pe_int fun _ => .int _)) (fun _ _ => rfl)) pda_nil))))) pds_nil)
      (pds_cons (pds_if (pdt_eq hr.units (pd_ixV (pdv_var (pv 0)) (pdv_of (pd_c pe_int fun _ => .int _)) (fun _ _ => rfl)) (pd_c pe_str fun _ => .str _)) (pds_one (pds_ret (pd_lst (pda_cons (pd_ixV (pdv_var (pv 0)) (pdv_of (pd_c pe_int fun _ => .int _)) (fun _ _ => rfl)) (pda_star (pdv_of (pd_sliceV (pdv_var (pv 0)) (pdo_some (pd_c pe_int fun _ => .int _)) pdo_none)) pda_nil))))) pds_nil)
      (pds_one (pds_ret (pd_lst pda_nil))))))), fun rs Q h => ?_⟩
  obtain ⟨f, e, ⟨wf, hl⟩, q⟩ := h
  have z1 := sizeLine_eq
  dsimp only at q
  rw [← fdA_map] at q
  cases f with
  | node g xs =>
    rw [Fm.d] at e
    rw [Fm.wf] at wf
    subst e
    cases g with
    | mn w =>
      have hz : (fdA xs).length ≤ sizeLine := by rw [fdA_len]; exact Nat.le_trans hl (by omega)
      cases w <;> ((repeat (first | refine ⟨_, atI_zero, ?_⟩ | refine ⟨_, atI_of (j := 1) rfl rfl, ?_⟩ | refine ⟨_, atI_of (j := 2) rfl rfl, ?_⟩ | refine ⟨_, atI_of (j := 3) rfl rfl, ?_⟩ | refine ⟨_, atI_of (j := 4) rfl rfl, ?_⟩ | refine ⟨_, atI_of (j := 5) rfl rfl, ?_⟩ | refine ⟨le_szL rfl, ?_⟩ | refine ⟨rfl, rfl, ?_⟩)); exact ⟨hz, q⟩)
    | tm i => obtain ⟨⟨a, rfl⟩, _⟩ := wf; (repeat (first | refine ⟨_, atI_zero, ?_⟩ | refine ⟨_, atI_of (j := 1) rfl rfl, ?_⟩ | refine ⟨_, atI_of (j := 2) rfl rfl, ?_⟩ | refine ⟨_, atI_of (j := 3) rfl rfl, ?_⟩ | refine ⟨_, atI_of (j := 4) rfl rfl, ?_⟩ | refine ⟨_, atI_of (j := 5) rfl rfl, ?_⟩ | refine ⟨le_szL rfl, ?_⟩ | refine ⟨rfl, rfl, ?_⟩)); exact q
    | ov => obtain ⟨⟨a, b, rfl⟩, _⟩ := wf; (repeat (first | refine ⟨_, atI_zero, ?_⟩ | refine ⟨_, atI_of (j := 1) rfl rfl, ?_⟩ | refine ⟨_, atI_of (j := 2) rfl rfl, ?_⟩ | refine ⟨_, atI_of (j := 3) rfl rfl, ?_⟩ | refine ⟨_, atI_of (j := 4) rfl rfl, ?_⟩ | refine ⟨_, atI_of (j := 5) rfl rfl, ?_⟩ | refine ⟨le_szL rfl, ?_⟩ | refine ⟨rfl, rfl, ?_⟩)); exact q
    | cs s => obtain ⟨⟨a, b, c, d, rfl⟩, _⟩ := wf; (repeat (first | refine ⟨_, atI_zero, ?_⟩ | refine ⟨_, atI_of (j := 1) rfl rfl, ?_⟩ | refine ⟨_, atI_of (j := 2) rfl rfl, ?_⟩ | refine ⟨_, atI_of (j := 3) rfl rfl, ?_⟩ | refine ⟨_, atI_of (j := 4) rfl rfl, ?_⟩ | refine ⟨_, atI_of (j := 5) rfl rfl, ?_⟩ | refine ⟨le_szL rfl, ?_⟩ | refine ⟨rfl, rfl, ?_⟩)); exact q
  | rg w c a b => rw [Fm.d] at e; subst e; cases w <;> ((repeat (first | refine ⟨_, atI_zero, ?_⟩ | refine ⟨_, atI_of (j := 1) rfl rfl, ?_⟩ | refine ⟨_, atI_of (j := 2) rfl rfl, ?_⟩ | refine ⟨_, atI_of (j := 3) rfl rfl, ?_⟩ | refine ⟨_, atI_of (j := 4) rfl rfl, ?_⟩ | refine ⟨_, atI_of (j := 5) rfl rfl, ?_⟩ | refine ⟨le_szL rfl, ?_⟩ | refine ⟨rfl, rfl, ?_⟩)); exact q)
  | _ => rw [Fm.d] at e; subst e; (repeat (first | refine ⟨_, atI_zero, ?_⟩ | refine ⟨_, atI_of (j := 1) rfl rfl, ?_⟩ | refine ⟨_, atI_of (j := 2) rfl rfl, ?_⟩ | refine ⟨_, atI_of (j := 3) rfl rfl, ?_⟩ | refine ⟨_, atI_of (j := 4) rfl rfl, ?_⟩ | refine ⟨_, atI_of (j := 5) rfl rfl, ?_⟩ | refine ⟨le_szL rfl, ?_⟩ | refine ⟨rfl, rfl, ?_⟩)); exact q
abbrev C_reads (n : Nat) (P : Program) (w : World) (K : PySem.W.Frag) (mg : Str → Option Value) (base : Heap) : Prop := FnX P w K mg base (3 + n) "reads" 1 (tFm (fun f => f.Sm n) fun f => .ol (f.rds.map Rd.d))
theorem ok_reads1 (n : Nat) (T : Tx K mg) (c_parts : C_parts P w K mg base) (c_reads : C_reads n P w K mg base) (D0 : Dfn K mg "reads" s_reads ["formula"]) : C_reads (n + 1) P w K mg base := by
  refine FnX.of (k := 3 + n) D0 sc_reads rfl mono_tFm len_tFm fun f cdv A outer s H E hr => ⟨_, (pds_cons (pds_if (pdt_eq hr.units (pd_ixV (pdv_var (pv 0)) (pdv_of (pd_c pe_int fun _ => .int _)) (fun _ _ => rfl)) (pd_c pe_str fun _ => .str _)) (pds_one (pds_ret (pd_lst (pda_cons (pd_var (pv 0)) pda_nil)))) pds_nil)
      (pds_cons (pds_if (pdt_in (pd_ixV (pdv_var (pv 0)) (pdv_of (pd_c pe_int fun _ => .int _)) (fun _ _ => rfl)) (pd_gtup T.g_OVER_RANGES T.t_OVER_RANGES (fun _ => (.cons (.str _) (.cons (.str _) (.cons (.str _) (.cons (.str _) .nil))))) (by rfl))) (pds_one (pds_ret (pd_lst (pda_cons (pd_ixV (pdv_var (pv 0)) (pdv_of (pd_c pe_int fun _ => .int _)) (fun _ _ => rfl)) pda_nil)))) pds_nil)
      (pds_one (pds_ret (pd_lc2 (vs1 := [2]) rfl sc_reads.nd (pdi_over (pd_fn c_parts (hr.mono (by omega)) (by rfl) (pda_cons (pd_var (pv 0)) pda_nil))) (blkOk_by (own := [("part", 1), ("read", 2)]) (N := ["formula", "part", "read"]) (sc := defScope s_reads) (by decide +kernel)) rfl (by decide) (fun _ _ _ _ _ => (pdg_nameW (pg_name (i := 1) sc_reads.nd rfl (Or.inl rfl)) (by decide))) (fun _ _ _ _ _ => pdts_nil) (fun _ _ _ _ _ => (pdi_over (pd_fn c_reads (hr.mono (by omega)) (by rfl) (pda_cons (pd_var (pv 1)) pda_nil)))) (fun _ _ _ _ _ => (pdg_nameW (pg_name (i := 2) sc_reads.nd rfl (Or.inl rfl)) (by decide))) (fun _ _ _ _ _ => pdts_nil) (fun _ _ _ _ _ => (pd_var (pv 2)))))))), fun rs Q h => ?_⟩
  obtain ⟨f, rfl, sm, q⟩ := h
  dsimp only at q
  have z1 := sizeLine_eq
  have key : ∀ δ : List Sl, δ.length = 3 → δ[0]? = some (.dt f.d) → f.rds = rdsA f.parts → tdLc2 (tdOver (tdCall (tFm (fun f => f.wf ∧ f.parts.length ≤ 100000) fun f => .ol (f.parts.map Fm.d)) (tdCons (tdVar 0) tdNil))) (gdName 1) tdYes (tdOver (tdCall (tFm (fun f => f.Sm n) fun f => .ol (f.rds.map Rd.d)) (tdCons (tdVar 1) tdNil))) (gdName 2) tdYes (tdVar 2) [1, 2] [2] δ (fun r _ => Q r) := by
    intro δ hd h0 er
    unfold tdLc2 tdOver tdCall tdCons tdNil tdVar
    rw [h0]
    refine ⟨f, rfl, ⟨sm.wf, Nat.le_trans parts_len sm.sz⟩, ?_⟩
    rw [er, rdsA_flat] at q
    have hz : (f.parts.flatMap fun x => x.rds.map Rd.d).length ≤ 100000 := by
      rw [← rdsA_flat, List.length_map, ← er]
      exact Nat.le_trans (rds_sz f) sm.sz
    refine comp2_flat Fm.d (fun x => x.rds.map Rd.d) (by rw [wipeD_len, hideOwn_len, hd]; decide) _ _ _ (fun x hx C hC => ?_) (by show 0 + _ ≤ _; omega) q
    dsimp only
    rw [List.getElem?_set_self (by rw [wipeD_len, hideOwn_len, hd]; decide)]
    exact ⟨x, rfl, sm.parts x hx, hC⟩
  cases f with
  | nm c r => rw [Fm.rds] at q; rw [Fm.d] at *; (repeat (first | refine ⟨_, atI_zero, ?_⟩ | refine ⟨_, atI_of (j := 1) rfl rfl, ?_⟩ | refine ⟨_, atI_of (j := 2) rfl rfl, ?_⟩ | refine ⟨_, atI_of (j := 3) rfl rfl, ?_⟩ | refine ⟨_, atI_of (j := 4) rfl rfl, ?_⟩ | refine ⟨_, atI_of (j := 5) rfl rfl, ?_⟩ | refine ⟨le_szL rfl, ?_⟩ | refine ⟨rfl, rfl, ?_⟩)); exact q
  | rg w c a b => rw [Fm.rds] at q; rw [Fm.d] at *; cases w <;> ((repeat (first | refine ⟨_, atI_zero, ?_⟩ | refine ⟨_, atI_of (j := 1) rfl rfl, ?_⟩ | refine ⟨_, atI_of (j := 2) rfl rfl, ?_⟩ | refine ⟨_, atI_of (j := 3) rfl rfl, ?_⟩ | refine ⟨_, atI_of (j := 4) rfl rfl, ?_⟩ | refine ⟨_, atI_of (j := 5) rfl rfl, ?_⟩ | refine ⟨le_szL rfl, ?_⟩ | refine ⟨rfl, rfl, ?_⟩)); exact q)
  | node g xs =>
    have er : (Fm.node g xs).rds = rdsA (Fm.node g xs).parts := by rw [Fm.rds]; rfl
    have key := key [.dt (Fm.node g xs).d, .no, .no] rfl rfl er
    have wf := sm.wf
    rw [Fm.wf] at wf
    rw [Fm.d] at key ⊢
    cases g with
    | mn w => cases w <;> ((repeat (first | refine ⟨_, atI_zero, ?_⟩ | refine ⟨_, atI_of (j := 1) rfl rfl, ?_⟩ | refine ⟨_, atI_of (j := 2) rfl rfl, ?_⟩ | refine ⟨_, atI_of (j := 3) rfl rfl, ?_⟩ | refine ⟨_, atI_of (j := 4) rfl rfl, ?_⟩ | refine ⟨_, atI_of (j := 5) rfl rfl, ?_⟩ | refine ⟨le_szL rfl, ?_⟩ | refine ⟨rfl, rfl, ?_⟩)); exact key)
    | tm i => (repeat (first | refine ⟨_, atI_zero, ?_⟩ | refine ⟨_, atI_of (j := 1) rfl rfl, ?_⟩ | refine ⟨_, atI_of (j := 2) rfl rfl, ?_⟩ | refine ⟨_, atI_of (j := 3) rfl rfl, ?_⟩ | refine ⟨_, atI_of (j := 4) rfl rfl, ?_⟩ | refine ⟨_, atI_of (j := 5) rfl rfl, ?_⟩ | refine ⟨le_szL rfl, ?_⟩ | refine ⟨rfl, rfl, ?_⟩)); exact key
    | ov => (repeat (first | refine ⟨_, atI_zero, ?_⟩ | refine ⟨_, atI_of (j := 1) rfl rfl, ?_⟩ | refine ⟨_, atI_of (j := 2) rfl rfl, ?_⟩ | refine ⟨_, atI_of (j := 3) rfl rfl, ?_⟩ | refine ⟨_, atI_of (j := 4) rfl rfl, ?_⟩ | refine ⟨_, atI_of (j := 5) rfl rfl, ?_⟩ | refine ⟨le_szL rfl, ?_⟩ | refine ⟨rfl, rfl, ?_⟩)); exact key
    | cs s => (repeat (first | refine ⟨_, atI_zero, ?_⟩ | refine ⟨_, atI_of (j := 1) rfl rfl, ?_⟩ | refine ⟨_, atI_of (j := 2) rfl rfl, ?_⟩ | refine ⟨_, atI_of (j := 3) rfl rfl, ?_⟩ | refine ⟨_, atI_of (j := 4) rfl rfl, ?_⟩ | refine ⟨_, atI_of (j := 5) rfl rfl, ?_⟩ | refine ⟨le_szL rfl, ?_⟩ | refine ⟨rfl, rfl, ?_⟩)); exact key
  | num i =>
    have key := key [.dt (Fm.num i).d, .no, .no] rfl rfl (by rw [Fm.rds]; rfl)
    rw [Fm.d] at key ⊢
    (repeat (first | refine ⟨_, atI_zero, ?_⟩ | refine ⟨_, atI_of (j := 1) rfl rfl, ?_⟩ | refine ⟨_, atI_of (j := 2) rfl rfl, ?_⟩ | refine ⟨_, atI_of (j := 3) rfl rfl, ?_⟩ | refine ⟨_, atI_of (j := 4) rfl rfl, ?_⟩ | refine ⟨_, atI_of (j := 5) rfl rfl, ?_⟩ | refine ⟨le_szL rfl, ?_⟩ | refine ⟨rfl, rfl, ?_⟩)); exact key
  | emp =>
    have key := key [.dt Fm.emp.d, .no, .no] rfl rfl (by rw [Fm.rds]; rfl)
    rw [Fm.d] at key ⊢
    (repeat (first | refine ⟨_, atI_zero, ?_⟩ | refine ⟨_, atI_of (j := 1) rfl rfl, ?_⟩ | refine ⟨_, atI_of (j := 2) rfl rfl, ?_⟩ | refine ⟨_, atI_of (j := 3) rfl rfl, ?_⟩ | refine ⟨_, atI_of (j := 4) rfl rfl, ?_⟩ | refine ⟨_, atI_of (j := 5) rfl rfl, ?_⟩ | refine ⟨le_szL rfl, ?_⟩ | refine ⟨rfl, rfl, ?_⟩)); exact key
  | inp =>
    have key := key [.dt Fm.inp.d, .no, .no] rfl rfl (by rw [Fm.rds]; rfl)
    rw [Fm.d] at key ⊢
    (repeat (first | refine ⟨_, atI_zero, ?_⟩ | refine ⟨_, atI_of (j := 1) rfl rfl, ?_⟩ | refine ⟨_, atI_of (j := 2) rfl rfl, ?_⟩ | refine ⟨_, atI_of (j := 3) rfl rfl, ?_⟩ | refine ⟨_, atI_of (j := 4) rfl rfl, ?_⟩ | refine ⟨_, atI_of (j := 5) rfl rfl, ?_⟩ | refine ⟨le_szL rfl, ?_⟩ | refine ⟨rfl, rfl, ?_⟩)); exact key
theorem ok_reads (T : Tx K mg) (D0 : Dfn K mg "reads" s_reads ["formula"]) (c_parts : C_parts P w K mg base := by assumption) : ∀ n, C_reads n P w K mg base
  | 0 => fnx_no D0 (fun rs Q ⟨f, _, h, _⟩ => absurd h.hgt (Nat.not_lt_zero _)) _
  | n + 1 => ok_reads1 n T c_parts (ok_reads T D0 c_parts n) D0
end
end K20
set_option Elab.async false
set_option linter.all false
set_option maxRecDepth 100000
set_option maxHeartbeats 4000000
namespace K20
open PySem PySem.Spec PyProof.Rows L2 DL
section
variable {P : Program} {w : World} {K : PySem.W.Frag} {mg : Str → Option Value} {base : Heap}
abbrev C_has_input (n : Nat) (P : Program) (w : World) (K : PySem.W.Frag) (mg : Str → Option Value) (base : Heap) : Prop := FnX P w K mg base (3 + n) "has_input" 1 (tFm (fun f => f.Sm n) fun f => .dt (.bl f.hasInp))
theorem ok_has_input1 (n : Nat) (T : Tx K mg) (c_parts : C_parts P w K mg base) (c_has_input : C_has_input n P w K mg base) (D0 : Dfn K mg "has_input" s_has_input ["formula"]) : C_has_input (n + 1) P w K mg base := by
  refine FnX.of (k := 3 + n) D0 sc_has_input rfl mono_tFm len_tFm fun f cdv A outer s H E hr => ⟨_, (pds_one (pds_ret (pd_or (pd_eq hr.units (pd_ixV (pdv_var (pv 0)) (pdv_of (pd_c pe_int fun _ => .int _)) (fun _ _ => rfl)) (pd_c pe_str fun _ => .str _)) (pd_one (pd_any rfl (by rfl) T.b_any (pda_cons (pd_lc rfl sc_has_input.nd (pdi_over (pd_fn c_parts (hr.mono (by omega)) (by rfl) (pda_cons (pd_var (pv 0)) pda_nil))) (blkOk_by (own := [("part", 1)]) (N := ["formula", "part"]) (sc := defScope s_has_input) (by decide +kernel)) rfl (fun _ _ _ _ _ => (pdg_name (pg_name (i := 1) sc_has_input.nd rfl (Or.inl rfl)))) (fun _ _ _ _ _ => pdts_nil) (fun _ _ _ _ _ => (pd_fn c_has_input (hr.mono (by omega)) (by rfl) (pda_cons (pd_var (pv 1)) pda_nil)))) pda_nil)))))), fun rs Q h => ?_⟩
  obtain ⟨f, rfl, sm, q⟩ := h
  dsimp only at q
  have z1 := sizeLine_eq
  have pl := Nat.le_trans (parts_len (f := f)) sm.sz
  have key : f.hasInp = hasInpA f.parts → ∀ D : EndsD, (∀ δ, D.rt (.dt (.bl f.hasInp)) δ) → tdRet (tdCB (f1 gAny) (tdCons (tdLc (tdOver (tdCall (tFm (fun f => f.wf ∧ f.parts.length ≤ 100000) fun f => .ol (f.parts.map Fm.d)) (tdCons (tdVar 0) tdNil))) (gdName 1) tdYes (tdCall (tFm (fun f => f.Sm n) fun f => .dt (.bl f.hasInp)) (tdCons (tdVar 1) tdNil)) [1]) tdNil)) D [.dt f.d, .no] := by
    intro el D hD
    refine ⟨f, rfl, ⟨sm.wf, pl⟩, by rw [List.length_map]; omega, ?_⟩
    refine comp_map Fm.d (fun x => .bl x.hasInp) _ _ _ (fun x hx C hC => ⟨x, rfl, sm.parts x hx, hC _ rfl⟩) ?_
    have e : blsOf ([] ++ f.parts.map fun x => DL.D.bl x.hasInp) = some (f.parts.map Fm.hasInp) := by
      have z := blsOf_map (f.parts.map Fm.hasInp)
      rw [List.map_map] at z
      exact z
    show match blsOf ([] ++ f.parts.map fun x => DL.D.bl x.hasInp) with
      | some bs => D.rt (.dt (.bl (bs.any id))) _
      | none => False
    rw [e]
    show D.rt (.dt (.bl ((f.parts.map Fm.hasInp).any id))) _
    rw [inpA_any, ← el]
    exact hD _
  have q' : ∀ δ : List Sl, ({ nx := fun _ => Q (.dt .non), rt := fun r _ => Q r } : EndsD).rt (.dt (.bl f.hasInp)) δ := fun _ => q
  cases f with
  | inp => rw [Fm.hasInp] at q; rw [Fm.d]; (repeat (first | refine ⟨_, atI_zero, ?_⟩ | refine ⟨_, atI_of (j := 1) rfl rfl, ?_⟩ | refine ⟨_, atI_of (j := 2) rfl rfl, ?_⟩ | refine ⟨_, atI_of (j := 3) rfl rfl, ?_⟩ | refine ⟨_, atI_of (j := 4) rfl rfl, ?_⟩ | refine ⟨_, atI_of (j := 5) rfl rfl, ?_⟩ | refine ⟨le_szL rfl, ?_⟩ | refine ⟨rfl, rfl, ?_⟩)); exact q
  | node g xs =>
    have key := key (inp_parts _ (by intro z; cases z)) _ q'
    rw [Fm.d] at key ⊢
    cases g with
    | mn w => cases w <;> ((repeat (first | refine ⟨_, atI_zero, ?_⟩ | refine ⟨_, atI_of (j := 1) rfl rfl, ?_⟩ | refine ⟨_, atI_of (j := 2) rfl rfl, ?_⟩ | refine ⟨_, atI_of (j := 3) rfl rfl, ?_⟩ | refine ⟨_, atI_of (j := 4) rfl rfl, ?_⟩ | refine ⟨_, atI_of (j := 5) rfl rfl, ?_⟩ | refine ⟨le_szL rfl, ?_⟩ | refine ⟨rfl, rfl, ?_⟩)); exact key)
    | _ => (repeat (first | refine ⟨_, atI_zero, ?_⟩ | refine ⟨_, atI_of (j := 1) rfl rfl, ?_⟩ | refine ⟨_, atI_of (j := 2) rfl rfl, ?_⟩ | refine ⟨_, atI_of (j := 3) rfl rfl, ?_⟩ | refine ⟨_, atI_of (j := 4) rfl rfl, ?_⟩ | refine ⟨_, atI_of (j := 5) rfl rfl, ?_⟩ | refine ⟨le_szL rfl, ?_⟩ | refine ⟨rfl, rfl, ?_⟩)); exact key
  | rg w c a b => have key := key (inp_parts _ (by intro z; cases z)) _ q'; rw [Fm.d] at key ⊢; cases w <;> ((repeat (first | refine ⟨_, atI_zero, ?_⟩ | refine ⟨_, atI_of (j := 1) rfl rfl, ?_⟩ | refine ⟨_, atI_of (j := 2) rfl rfl, ?_⟩ | refine ⟨_, atI_of (j := 3) rfl rfl, ?_⟩ | refine ⟨_, atI_of (j := 4) rfl rfl, ?_⟩ | refine ⟨_, atI_of (j := 5) rfl rfl, ?_⟩ | refine ⟨le_szL rfl, ?_⟩ | refine ⟨rfl, rfl, ?_⟩)); exact key)
  | _ => have key := key (inp_parts _ (by intro z; cases z)) _ q'; rw [Fm.d] at key ⊢; (repeat (first | refine ⟨_, atI_zero, ?_⟩ | refine ⟨_, atI_of (j := 1) rfl rfl, ?_⟩ | refine ⟨_, atI_of (j := 2) rfl rfl, ?_⟩ | refine ⟨_, atI_of (j := 3) rfl rfl, ?_⟩ | refine ⟨_, atI_of (j := 4) rfl rfl, ?_⟩ | refine ⟨_, atI_of (j := 5) rfl rfl, ?_⟩ | refine ⟨le_szL rfl, ?_⟩ | refine ⟨rfl, rfl, ?_⟩)); exact key
theorem ok_has_input (T : Tx K mg) (D0 : Dfn K mg "has_input" s_has_input ["formula"]) (c_parts : C_parts P w K mg base := by assumption) : ∀ n, C_has_input n P w K mg base
  | 0 => fnx_no D0 (fun rs Q ⟨f, _, h, _⟩ => absurd h.hgt (Nat.not_lt_zero _)) _
  | n + 1 => ok_has_input1 n T c_parts (ok_has_input T D0 c_parts n) D0
end
end K20
set_option Elab.async false
set_option linter.all false
set_option maxRecDepth 100000
set_option maxHeartbeats 4000000
namespace K20
open PySem PySem.Spec PyProof.Rows L2 DL
section
variable {P : Program} {w : World} {K : PySem.W.Frag} {mg : Str → Option Value} {base : Heap}
def FitR (a b r : Sl) : Prop := ∃ (x : Rd) (p : Str), a = .dt x.d ∧ b = .dt (.str p) ∧ x.ok ∧ r = .dt (.bl (x.fits p))
abbrev C_read_fits (P : Program) (w : World) (K : PySem.W.Frag) (mg : Str → Option Value) (base : Heap) : Prop := FnX P w K mg base 1 "read_fits" 2 (tR2 FitR)
theorem ok_read_fits (T : Tx K mg) (D0 : Dfn K mg "read_fits" s_read_fits ["read", "place"]) : C_read_fits P w K mg base := by
  refine FnX.of D0 sc_read_fits rfl mono_tR2 len_tR2 fun f cdv A outer s H E hr => ⟨_, (pds_cons (pds_if (pdt_eq hr.units (pd_ixV (pdv_var (pv 0)) (pdv_of (pd_c pe_int fun _ => .int _)) (fun _ _ => rfl)) (pd_c pe_str fun _ => .str _)) (pds_one (pds_ret (pd_or (pd_eq hr.units (pd_var (pv 1)) (pd_c pe_str fun _ => .str _)) (pd_one (pd_and (pd_eq hr.units (pd_var (pv 1)) (pd_c pe_str fun _ => .str _)) (pd_one (pd_eq hr.units (pd_sliceV (pdv_var (pv 0)) (pdo_some (pd_c pe_int fun _ => .int _)) pdo_none) (pd_tup (pda_cons (pd_c pe_non fun _ => .non) (pda_cons (pd_c pe_non fun _ => .non) pda_nil)))))))))) pds_nil)
      (pds_cons (pds_set (i := 2) sc_read_fits.nd rfl (Or.inl rfl) (pd_ix (pd_ixV (pdv_var (pv 0)) (pdv_of (pd_c pe_int fun _ => .int _)) (fun _ _ => rfl)) (pd_c pe_int fun _ => .int _) (fun _ _ => rfl)))
      (pds_one (pds_ret (pd_or (pd_eq hr.units (pd_var (pv 2)) (pd_c pe_str fun _ => .str _)) (pd_or (pd_and (pd_eq hr.units (pd_var (pv 2)) (pd_c pe_str fun _ => .str _)) (pd_one (pd_eq hr.units (pd_var (pv 1)) (pd_c pe_str fun _ => .str _)))) (pd_one (pd_and (pd_in (pd_var (pv 2)) (pd_tup (pda_cons (pd_c pe_str fun _ => .str _) (pda_cons (pd_c pe_str fun _ => .str _) pda_nil)))) (pd_one (pd_eq hr.units (pd_var (pv 1)) (pd_c pe_str fun _ => .str _))))))))))), fun rs Q h => ?_⟩
  obtain ⟨a, b, r, rfl, ⟨x, p, rfl, rfl, ok, rfl⟩, q⟩ := h
  cases x with
  | nm c r =>
    have hw : ∃ w ds, r = .tup (.str w :: ds) := by
      rcases row_cases ok.2 with ⟨w, rfl, _⟩ | ⟨w, i, rfl, _⟩ <;> exact ⟨_, _, rfl⟩
    obtain ⟨w, ds, rfl⟩ := hw
    rw [Rd.d]
    (repeat (first | refine ⟨_, atI_zero, ?_⟩ | refine ⟨_, atI_of (j := 1) rfl rfl, ?_⟩ | refine ⟨_, atI_of (j := 2) rfl rfl, ?_⟩ | refine ⟨_, atI_of (j := 3) rfl rfl, ?_⟩ | refine ⟨_, atI_of (j := 4) rfl rfl, ?_⟩ | refine ⟨_, atI_of (j := 5) rfl rfl, ?_⟩ | refine ⟨le_szL rfl, ?_⟩ | refine ⟨rfl, rfl, ?_⟩))
    refine or_in (Q := qb Q) q fun q => ?_
    refine if_both (a := decide (w = "by")) (fun e => ?_) fun e => ?_
    · have q' : qb Q (decide (w = "by") && decide (p = "body") || inV (.str w) [.str "foot", .str "last"] && decide (p = "foot")) := q
      rw [e] at q'
      refine if_both (a := decide (p = "body")) (fun e2 => ?_) fun e2 => ?_
      · rw [e2] at q'; exact q'
      · rw [e2] at q'
        (repeat (first | refine ⟨_, atI_zero, ?_⟩ | refine ⟨_, atI_of (j := 1) rfl rfl, ?_⟩ | refine ⟨_, atI_of (j := 2) rfl rfl, ?_⟩ | refine ⟨_, atI_of (j := 3) rfl rfl, ?_⟩ | refine ⟨_, atI_of (j := 4) rfl rfl, ?_⟩ | refine ⟨_, atI_of (j := 5) rfl rfl, ?_⟩ | refine ⟨le_szL rfl, ?_⟩ | refine ⟨rfl, rfl, ?_⟩))
        exact and_in (Q := qb Q) q' fun q => q
    · have q' : qb Q (decide (w = "by") && decide (p = "body") || inV (.str w) [.str "foot", .str "last"] && decide (p = "foot")) := q
      rw [e] at q'
      (repeat (first | refine ⟨_, atI_zero, ?_⟩ | refine ⟨_, atI_of (j := 1) rfl rfl, ?_⟩ | refine ⟨_, atI_of (j := 2) rfl rfl, ?_⟩ | refine ⟨_, atI_of (j := 3) rfl rfl, ?_⟩ | refine ⟨_, atI_of (j := 4) rfl rfl, ?_⟩ | refine ⟨_, atI_of (j := 5) rfl rfl, ?_⟩ | refine ⟨le_szL rfl, ?_⟩ | refine ⟨rfl, rfl, ?_⟩))
      exact and_in (Q := qb Q) q' fun q => q
  | rg c a b =>
    rw [Rd.d]
    (repeat (first | refine ⟨_, atI_zero, ?_⟩ | refine ⟨_, atI_of (j := 1) rfl rfl, ?_⟩ | refine ⟨_, atI_of (j := 2) rfl rfl, ?_⟩ | refine ⟨_, atI_of (j := 3) rfl rfl, ?_⟩ | refine ⟨_, atI_of (j := 4) rfl rfl, ?_⟩ | refine ⟨_, atI_of (j := 5) rfl rfl, ?_⟩ | refine ⟨le_szL rfl, ?_⟩ | refine ⟨rfl, rfl, ?_⟩))
    refine or_in (Q := qb Q) q fun q => ?_
    refine and_in (Q := qb Q) q fun q => ?_
    rcases lim_cases ok.2.1 with rfl | ⟨i, rfl⟩ <;> rcases lim_cases ok.2.2 with rfl | ⟨j, rfl⟩ <;> ((repeat (first | refine ⟨_, atI_zero, ?_⟩ | refine ⟨_, atI_of (j := 1) rfl rfl, ?_⟩ | refine ⟨_, atI_of (j := 2) rfl rfl, ?_⟩ | refine ⟨_, atI_of (j := 3) rfl rfl, ?_⟩ | refine ⟨_, atI_of (j := 4) rfl rfl, ?_⟩ | refine ⟨_, atI_of (j := 5) rfl rfl, ?_⟩ | refine ⟨le_szL rfl, ?_⟩ | refine ⟨rfl, rfl, ?_⟩)); exact q)
def FitF (n : Nat) (a b r : Sl) : Prop := ∃ (f : Fm) (p : Str), a = .dt f.d ∧ b = .dt (.str p) ∧ f.Sm n ∧ (∀ x ∈ f.rds, x.ok) ∧ r = .dt (.bl (f.fits p))
abbrev C_fits (n : Nat) (P : Program) (w : World) (K : PySem.W.Frag) (mg : Str → Option Value) (base : Heap) : Prop := FnX P w K mg base ((3 + n) + 1) "fits" 2 (tR2 (FitF n))
theorem ok_fits (n : Nat) (T : Tx K mg) (D0 : Dfn K mg "fits" s_fits ["formula", "place"]) (c_has_input : C_has_input n P w K mg base) (c_reads : C_reads n P w K mg base) (c_read_fits : C_read_fits P w K mg base := by assumption) : C_fits n P w K mg base := by
  refine FnX.of (k := 3 + n) D0 sc_fits rfl mono_tR2 len_tR2 fun f cdv A outer s H E hr => ⟨_, (pds_cons (pds_if (pdt_eq hr.units (pd_ixV (pdv_var (pv 0)) (pdv_of (pd_c pe_int fun _ => .int _)) (fun _ _ => rfl)) (pd_c pe_str fun _ => .str _)) (pds_one (pds_ret (pd_in (pd_var (pv 1)) (pd_tup (pda_cons (pd_c pe_str fun _ => .str _) (pda_cons (pd_c pe_str fun _ => .str _) pda_nil)))))) pds_nil)
      (pds_one (pds_ret (pd_and (pd_not (pd_fn c_has_input (hr.mono (by omega)) (by rfl) (pda_cons (pd_var (pv 0)) pda_nil))) (pd_one (pd_all rfl (by rfl) T.b_all (pda_cons (pd_frz [1] (pd_lc rfl sc_fits.nd (pdi_over (pd_fn c_reads (hr.mono (by omega)) (by rfl) (pda_cons (pd_var (pv 0)) pda_nil))) (blkOk_by (own := [("read", 2)]) (N := ["formula", "place", "read"]) (sc := defScope s_fits) (by decide +kernel)) rfl (fun _ _ _ _ _ => (pdg_name (pg_name (i := 2) sc_fits.nd rfl (Or.inl rfl)))) (fun _ _ _ _ _ => pdts_nil) (fun _ _ _ _ _ => (pd_fn c_read_fits (hr.mono (by omega)) (by rfl) (pda_cons (pd_var (pv 2)) (pda_cons (pd_var (pv 1)) pda_nil)))))) pda_nil))))))), fun rs Q h => ?_⟩
  obtain ⟨a, b, r, rfl, ⟨f, p, rfl, rfl, sm, ok, rfl⟩, q⟩ := h
  have z1 := sizeLine_eq
  have key : (f.fits p = (!f.hasInp && f.rds.all fun r => r.fits p)) → ∀ D : EndsD, (∀ δ, D.rt (.dt (.bl (f.fits p))) δ) → tdRet (tdAnd (tdNot (tdCall (tFm (fun f => f.Sm n) fun f => .dt (.bl f.hasInp)) (tdCons (tdVar 0) tdNil)))
      (tdCB (f1 gAll) (tdCons (tdFrz [1] (tdLc (tdOver (tdCall (tFm (fun f => f.Sm n) fun f => .ol (f.rds.map Rd.d)) (tdCons (tdVar 0) tdNil))) (gdName 2) tdYes (tdCall (tR2 FitR) (tdCons (tdVar 2) (tdCons (tdVar 1) tdNil))) [2])) tdNil))) D [.dt f.d, .dt (.str p), .no] := by
    intro el D hD
    refine ⟨f, rfl, sm, ?_⟩
    rw [el] at hD
    dsimp only
    cases e : f.hasInp with
    | true => rw [e] at hD; exact hD _
    | false =>
      rw [e] at hD
      refine if_yes rfl ?_
      refine ⟨f, rfl, sm, by rw [List.length_map]; have := rds_sz f; have := sm.sz; omega, ?_⟩
      refine comp_map Rd.d (fun x => .bl (x.fits p)) _ _ _ (fun x hx C hC => ⟨_, _, _, rfl, ⟨x, p, rfl, rfl, ok x hx, rfl⟩, hC _ rfl⟩) ?_
      have e : blsOf ([] ++ f.rds.map fun x => DL.D.bl (x.fits p)) = some (f.rds.map fun x => x.fits p) := by
        have z := blsOf_map (f.rds.map fun x => x.fits p)
        rw [List.map_map] at z
        exact z
      show match blsOf ([] ++ f.rds.map fun x => DL.D.bl (x.fits p)) with
        | some bs => D.rt (.dt (.bl (bs.all id))) _
        | none => False
      rw [e]
      show D.rt (.dt (.bl ((f.rds.map fun x => x.fits p).all id))) _
      rw [List.all_map]
      exact hD _
  have q' : ∀ δ : List Sl, ({ nx := fun _ => Q (.dt .non), rt := fun r _ => Q r } : EndsD).rt (.dt (.bl (f.fits p))) δ := fun _ => q
  cases f with
  | inp => rw [Fm.d]; (repeat (first | refine ⟨_, atI_zero, ?_⟩ | refine ⟨_, atI_of (j := 1) rfl rfl, ?_⟩ | refine ⟨_, atI_of (j := 2) rfl rfl, ?_⟩ | refine ⟨_, atI_of (j := 3) rfl rfl, ?_⟩ | refine ⟨_, atI_of (j := 4) rfl rfl, ?_⟩ | refine ⟨_, atI_of (j := 5) rfl rfl, ?_⟩ | refine ⟨le_szL rfl, ?_⟩ | refine ⟨rfl, rfl, ?_⟩)); exact q
  | node g xs =>
    have key := key rfl _ q'
    rw [Fm.d] at key ⊢
    cases g with
    | mn w => cases w <;> ((repeat (first | refine ⟨_, atI_zero, ?_⟩ | refine ⟨_, atI_of (j := 1) rfl rfl, ?_⟩ | refine ⟨_, atI_of (j := 2) rfl rfl, ?_⟩ | refine ⟨_, atI_of (j := 3) rfl rfl, ?_⟩ | refine ⟨_, atI_of (j := 4) rfl rfl, ?_⟩ | refine ⟨_, atI_of (j := 5) rfl rfl, ?_⟩ | refine ⟨le_szL rfl, ?_⟩ | refine ⟨rfl, rfl, ?_⟩)); exact key)
    | _ => (repeat (first | refine ⟨_, atI_zero, ?_⟩ | refine ⟨_, atI_of (j := 1) rfl rfl, ?_⟩ | refine ⟨_, atI_of (j := 2) rfl rfl, ?_⟩ | refine ⟨_, atI_of (j := 3) rfl rfl, ?_⟩ | refine ⟨_, atI_of (j := 4) rfl rfl, ?_⟩ | refine ⟨_, atI_of (j := 5) rfl rfl, ?_⟩ | refine ⟨le_szL rfl, ?_⟩ | refine ⟨rfl, rfl, ?_⟩)); exact key
  | rg w c a b => have key := key rfl _ q'; rw [Fm.d] at key ⊢; cases w <;> ((repeat (first | refine ⟨_, atI_zero, ?_⟩ | refine ⟨_, atI_of (j := 1) rfl rfl, ?_⟩ | refine ⟨_, atI_of (j := 2) rfl rfl, ?_⟩ | refine ⟨_, atI_of (j := 3) rfl rfl, ?_⟩ | refine ⟨_, atI_of (j := 4) rfl rfl, ?_⟩ | refine ⟨_, atI_of (j := 5) rfl rfl, ?_⟩ | refine ⟨le_szL rfl, ?_⟩ | refine ⟨rfl, rfl, ?_⟩)); exact key)
  | _ => have key := key rfl _ q'; rw [Fm.d] at key ⊢; (repeat (first | refine ⟨_, atI_zero, ?_⟩ | refine ⟨_, atI_of (j := 1) rfl rfl, ?_⟩ | refine ⟨_, atI_of (j := 2) rfl rfl, ?_⟩ | refine ⟨_, atI_of (j := 3) rfl rfl, ?_⟩ | refine ⟨_, atI_of (j := 4) rfl rfl, ?_⟩ | refine ⟨_, atI_of (j := 5) rfl rfl, ?_⟩ | refine ⟨le_szL rfl, ?_⟩ | refine ⟨rfl, rfl, ?_⟩)); exact key
abbrev C_is_formula (n : Nat) (P : Program) (w : World) (K : PySem.W.Frag) (mg : Str → Option Value) (base : Heap) : Prop := FnX P w K mg base (4 + 3 * n) "is_formula" 1 (tFm (fun f => f.Sm n ∧ f.ok) fun f => .dt (.bl true))
def tAre (n : Nat) : TF := fun rs Q => ∃ xs : List Fm, rs = [.dt (.tup (fdA xs))] ∧ xs.length ≤ 100000 ∧ (∀ x ∈ xs, x.Sm n ∧ x.ok) ∧ Q (.dt (.bl true))
abbrev C_are_formulas (n : Nat) (P : Program) (w : World) (K : PySem.W.Frag) (mg : Str → Option Value) (base : Heap) : Prop := FnX P w K mg base (4 + 3 * n + 1) "are_formulas" 1 (tAre n)
theorem ok_are_formulas (n : Nat) (T : Tx K mg) (D0 : Dfn K mg "are_formulas" s_are_formulas ["thing"]) (c_is_formula : C_is_formula n P w K mg base) : C_are_formulas n P w K mg base := by
  refine FnX.of (k := 4 + 3 * n) D0 sc_are_formulas rfl (fun rs Q Q' ⟨xs, a, b, c, d⟩ w => ⟨xs, a, b, c, w _ d⟩) (fun rs Q ⟨xs, a, _⟩ => by rw [a]; rfl) fun f cdv A outer s H E hr => ⟨_, (pds_one (pds_ret (pd_and (pd_isi .tuple (by rfl) T.b_isinstance (by rfl) T.b_tuple boot_tupleT (pd_var (pv 0))) (pd_one (pd_all rfl (by rfl) T.b_all (pda_cons (pd_lc rfl sc_are_formulas.nd (pdi_over (pd_var (pv 0))) (blkOk_by (own := [("one", 1)]) (N := ["thing", "one"]) (sc := defScope s_are_formulas) (by decide +kernel)) rfl (fun _ _ _ _ _ => (pdg_name (pg_name (i := 1) sc_are_formulas.nd rfl (Or.inl rfl)))) (fun _ _ _ _ _ => pdts_nil) (fun _ _ _ _ _ => (pd_fn c_is_formula (hr.mono (by omega)) (by rfl) (pda_cons (pd_var (pv 1)) pda_nil)))) pda_nil)))))), fun rs Q h => ?_⟩
  obtain ⟨xs, rfl, hl, hx, q⟩ := h
  have z1 := sizeLine_eq
  rw [fdA_map]
  refine ⟨rfl, ?_⟩
  refine if_yes rfl ?_
  refine ⟨by rw [List.length_map]; omega, ?_⟩
  refine comp_map Fm.d (fun _ => .bl true) _ _ _ (fun x hm C hC => ⟨x, rfl, hx x hm, hC _ rfl⟩) ?_
  have e : blsOf ([] ++ xs.map fun _ => DL.D.bl true) = some (xs.map fun _ => true) := by
    have z := blsOf_map (xs.map fun _ => true)
    rw [List.map_map] at z
    exact z
  show match blsOf ([] ++ xs.map fun _ => DL.D.bl true) with
    | some bs => Q (.dt (.bl (bs.all id)))
    | none => False
  rw [e]
  show Q (.dt (.bl ((xs.map fun _ => true).all id)))
  rw [List.map_const', all_true]
  exact q
def Fm.long : Fm → Prop
  | .node (.mn _) _ => False
  | .node _ _ => True
  | _ => False
abbrev C_is_long_formula (n : Nat) (P : Program) (w : World) (K : PySem.W.Frag) (mg : Str → Option Value) (base : Heap) : Prop := FnX P w K mg base (4 + 3 * n + 2) "is_long_formula" 1 (tFm (fun f => f.Sm (n + 1) ∧ f.ok ∧ Fm.long f) fun f => .dt (.bl true))
theorem ok_is_long_formula (n : Nat) (T : Tx K mg) (D0 : Dfn K mg "is_long_formula" s_is_long_formula ["thing"]) (c_is_formula : C_is_formula n P w K mg base) (c_are_formulas : C_are_formulas n P w K mg base) (c_is_number : C_is_number P w K mg base := by assumption) : C_is_long_formula n P w K mg base := by
  refine FnX.of (k := 4 + 3 * n + 1) D0 sc_is_long_formula rfl mono_tFm len_tFm fun f cdv A outer s H E hr => ⟨_, (pds_cons (pds_if (pdt_eq hr.units (pd_ixV (pdv_var (pv 0)) (pdv_of (pd_c pe_int fun _ => .int _)) (fun _ _ => rfl)) (pd_c pe_str fun _ => .str _)) (pds_one (pds_ret (pd_and (pd_eq hr.units (pd_lenV (by rfl) T.b_len (pdv_var (pv 0))) (pd_c pe_int fun _ => .int _)) (pd_and (pd_fn c_is_number (hr.mono (by omega)) (by rfl) (pda_cons (pd_ixV (pdv_var (pv 0)) (pdv_of (pd_c pe_int fun _ => .int _)) (fun _ _ => rfl)) pda_nil)) (pd_one (pd_fn c_is_formula (hr.mono (by omega)) (by rfl) (pda_cons (pd_ixV (pdv_var (pv 0)) (pdv_of (pd_c pe_int fun _ => .int _)) (fun _ _ => rfl)) pda_nil))))))) pds_nil)
      (pds_cons (pds_if (pdt_eq hr.units (pd_ixV (pdv_var (pv 0)) (pdv_of (pd_c pe_int fun _ => .int _)) (fun _ _ => rfl)) (pd_c pe_str fun _ => .str _)) (pds_one (pds_ret (pd_and (pd_eq hr.units (pd_lenV (by rfl) T.b_len (pdv_var (pv 0))) (pd_c pe_int fun _ => .int _)) (pd_one (pd_fn c_are_formulas (hr.mono (by omega)) (by rfl) (pda_cons (pd_sliceV (pdv_var (pv 0)) (pdo_some (pd_c pe_int fun _ => .int _)) pdo_none) pda_nil)))))) pds_nil)
      (pds_cons (pds_if (PDW.t (pdw_or (pdt_ne hr.units (pd_ixV (pdv_var (pv 0)) (pdv_of (pd_c pe_int fun _ => .int _)) (fun _ _ => rfl)) (pd_c pe_str fun _ => .str _)) (pdw_or (pdt_ne hr.units (pd_lenV (by rfl) T.b_len (pdv_var (pv 0))) (pd_c pe_int fun _ => .int _)) (pdw_or (pdt_not (pdt_b (pd_isi .str (by rfl) T.b_isinstance (by rfl) T.b_str boot_strT (pd_ixV (pdv_var (pv 0)) (pdv_of (pd_c pe_int fun _ => .int _)) (fun _ _ => rfl))))) (pdw_or1 (pdt_notIn (pd_ixV (pdv_var (pv 0)) (pdv_of (pd_c pe_int fun _ => .int _)) (fun _ _ => rfl)) (pd_gtup T.g_SIGNS T.t_SIGNS (fun _ => (.cons (.str _) (.cons (.str _) (.cons (.str _) (.cons (.str _) (.cons (.str _) (.cons (.str _) .nil))))))) (by rfl)))))))) (pds_one (pds_ret (pd_c pe_bl fun _ => .bl _))) pds_nil)
      (pds_one (pds_ret (pd_and (pd_fn c_is_formula (hr.mono (by omega)) (by rfl) (pda_cons (pd_ixV (pdv_var (pv 0)) (pdv_of (pd_c pe_int fun _ => .int _)) (fun _ _ => rfl)) pda_nil)) (pd_one (pd_fn c_are_formulas (hr.mono (by omega)) (by rfl) (pda_cons (pd_sliceV (pdv_var (pv 0)) (pdo_some (pd_c pe_int fun _ => .int _)) pdo_none) pda_nil))))))))), fun rs Q h => ?_⟩
  obtain ⟨f, rfl, ⟨sm, ok, lg⟩, q⟩ := h
  dsimp only at q
  cases f with
  | node g xs =>
    have sp := sm.parts
    have wf := sm.wf
    rw [Fm.wf] at wf
    rw [Fm.ok] at ok
    have ok2 := okA_mem ok.2
    rw [Fm.d]
    cases g with
    | mn w => exact lg.elim
    | tm i =>
      obtain ⟨⟨a, rfl⟩, _⟩ := wf
      have hi : isNum (.int i) = true := ok.1
      (repeat (first | refine ⟨_, atI_zero, ?_⟩ | refine ⟨_, atI_of (j := 1) rfl rfl, ?_⟩ | refine ⟨_, atI_of (j := 2) rfl rfl, ?_⟩ | refine ⟨_, atI_of (j := 3) rfl rfl, ?_⟩ | refine ⟨_, atI_of (j := 4) rfl rfl, ?_⟩ | refine ⟨_, atI_of (j := 5) rfl rfl, ?_⟩ | refine ⟨le_szL rfl, ?_⟩ | refine ⟨rfl, rfl, ?_⟩))
      refine ⟨rfl, if_yes hi ?_⟩
      (repeat (first | refine ⟨_, atI_zero, ?_⟩ | refine ⟨_, atI_of (j := 1) rfl rfl, ?_⟩ | refine ⟨_, atI_of (j := 2) rfl rfl, ?_⟩ | refine ⟨_, atI_of (j := 3) rfl rfl, ?_⟩ | refine ⟨_, atI_of (j := 4) rfl rfl, ?_⟩ | refine ⟨_, atI_of (j := 5) rfl rfl, ?_⟩ | refine ⟨le_szL rfl, ?_⟩ | refine ⟨rfl, rfl, ?_⟩))
      exact ⟨a, rfl, ⟨sp a (by simp [Fm.parts]), ok2 a (by simp)⟩, q⟩
    | ov =>
      obtain ⟨⟨a, b, rfl⟩, _⟩ := wf
      (repeat (first | refine ⟨_, atI_zero, ?_⟩ | refine ⟨_, atI_of (j := 1) rfl rfl, ?_⟩ | refine ⟨_, atI_of (j := 2) rfl rfl, ?_⟩ | refine ⟨_, atI_of (j := 3) rfl rfl, ?_⟩ | refine ⟨_, atI_of (j := 4) rfl rfl, ?_⟩ | refine ⟨_, atI_of (j := 5) rfl rfl, ?_⟩ | refine ⟨le_szL rfl, ?_⟩ | refine ⟨rfl, rfl, ?_⟩))
      refine if_yes rfl ?_
      exact ⟨[a, b], rfl, Nat.le_of_ble_eq_true rfl, fun x hx => ⟨sp x hx, ok2 x hx⟩, q⟩
    | cs s =>
      obtain ⟨⟨a, b, c, d, rfl⟩, _⟩ := wf
      (repeat (first | refine ⟨_, atI_zero, ?_⟩ | refine ⟨_, atI_of (j := 1) rfl rfl, ?_⟩ | refine ⟨_, atI_of (j := 2) rfl rfl, ?_⟩ | refine ⟨_, atI_of (j := 3) rfl rfl, ?_⟩ | refine ⟨_, atI_of (j := 4) rfl rfl, ?_⟩ | refine ⟨_, atI_of (j := 5) rfl rfl, ?_⟩ | refine ⟨le_szL rfl, ?_⟩ | refine ⟨rfl, rfl, ?_⟩))
      refine ⟨rfl, ?_⟩
      (repeat (first | refine ⟨_, atI_zero, ?_⟩ | refine ⟨_, atI_of (j := 1) rfl rfl, ?_⟩ | refine ⟨_, atI_of (j := 2) rfl rfl, ?_⟩ | refine ⟨_, atI_of (j := 3) rfl rfl, ?_⟩ | refine ⟨_, atI_of (j := 4) rfl rfl, ?_⟩ | refine ⟨_, atI_of (j := 5) rfl rfl, ?_⟩ | refine ⟨le_szL rfl, ?_⟩ | refine ⟨rfl, rfl, ?_⟩))
      refine if_no (by cases s <;> rfl) ?_
      (repeat (first | refine ⟨_, atI_zero, ?_⟩ | refine ⟨_, atI_of (j := 1) rfl rfl, ?_⟩ | refine ⟨_, atI_of (j := 2) rfl rfl, ?_⟩ | refine ⟨_, atI_of (j := 3) rfl rfl, ?_⟩ | refine ⟨_, atI_of (j := 4) rfl rfl, ?_⟩ | refine ⟨_, atI_of (j := 5) rfl rfl, ?_⟩ | refine ⟨le_szL rfl, ?_⟩ | refine ⟨rfl, rfl, ?_⟩))
      refine ⟨a, rfl, ⟨sp a (by simp [Fm.parts]), ok2 a (by simp)⟩, ?_⟩
      refine if_yes rfl ?_
      exact ⟨[b, c, d], rfl, Nat.le_of_ble_eq_true rfl, fun x hx => ⟨sp x (List.mem_cons_of_mem _ hx), ok2 x (List.mem_cons_of_mem _ hx)⟩, q⟩
  | _ => exact lg.elim
end
end K20
set_option Elab.async false
set_option linter.all false
set_option maxRecDepth 100000
set_option maxHeartbeats 4000000
namespace K20
open PySem PySem.Spec PyProof.Rows L2 DL
section
variable {P : Program} {w : World} {K : PySem.W.Frag} {mg : Str → Option Value} {base : Heap}
theorem ok_is_formula1 (n : Nat) (T : Tx K mg) (c_is_number : C_is_number P w K mg base) (c_is_name : C_is_name P w K mg base) (c_is_range : C_is_range P w K mg base) (c_are_formulas : C_are_formulas n P w K mg base) (c_is_long_formula : C_is_long_formula n P w K mg base) (D0 : Dfn K mg "is_formula" s_is_formula ["thing"]) : C_is_formula (n + 1) P w K mg base := by
  show FnX P w K mg base (4 + 3 * n + 2 + 1) "is_formula" 1 _
  refine FnX.of (k := 4 + 3 * n + 2) D0 sc_is_formula rfl mono_tFm len_tFm fun f cdv A outer s H E hr => ⟨_, (pds_cons (pds_if (PDW.t (pdw_or (pdt_not (pdt_b (pd_isi .tuple (by rfl) T.b_isinstance (by rfl) T.b_tuple boot_tupleT (pd_var (pv 0))))) (pdw_or (pdt_eq hr.units (pd_lenV (by rfl) T.b_len (pdv_var (pv 0))) (pd_c pe_int fun _ => .int _)) (pdw_or1 (pdt_not (pdt_b (pd_isi .str (by rfl) T.b_isinstance (by rfl) T.b_str boot_strT (pd_ixV (pdv_var (pv 0)) (pdv_of (pd_c pe_int fun _ => .int _)) (fun _ _ => rfl))))))))) (pds_one (pds_ret (pd_c pe_bl fun _ => .bl _))) pds_nil)
      (pds_cons (pds_if (pdt_in (pd_ixV (pdv_var (pv 0)) (pdv_of (pd_c pe_int fun _ => .int _)) (fun _ _ => rfl)) (pd_tup (pda_cons (pd_c pe_str fun _ => .str _) (pda_cons (pd_c pe_str fun _ => .str _) pda_nil)))) (pds_one (pds_ret (pd_eq hr.units (pd_lenV (by rfl) T.b_len (pdv_var (pv 0))) (pd_c pe_int fun _ => .int _)))) pds_nil)
      (pds_cons (pds_if (pdt_eq hr.units (pd_ixV (pdv_var (pv 0)) (pdv_of (pd_c pe_int fun _ => .int _)) (fun _ _ => rfl)) (pd_c pe_str fun _ => .str _)) (pds_one (pds_ret (pd_and (pd_eq hr.units (pd_lenV (by rfl) T.b_len (pdv_var (pv 0))) (pd_c pe_int fun _ => .int _)) (pd_one (pd_fn c_is_number (hr.mono (by omega)) (by rfl) (pda_cons (pd_ixV (pdv_var (pv 0)) (pdv_of (pd_c pe_int fun _ => .int _)) (fun _ _ => rfl)) pda_nil)))))) pds_nil)
      (pds_cons (pds_if (pdt_in (pd_ixV (pdv_var (pv 0)) (pdv_of (pd_c pe_int fun _ => .int _)) (fun _ _ => rfl)) (pd_tup (pda_cons (pd_c pe_str fun _ => .str _) (pda_cons (pd_c pe_str fun _ => .str _) (pda_cons (pd_c pe_str fun _ => .str _) pda_nil))))) (pds_one (pds_ret (pd_and (pd_eq hr.units (pd_lenV (by rfl) T.b_len (pdv_var (pv 0))) (pd_c pe_int fun _ => .int _)) (pd_one (pd_fn c_are_formulas (hr.mono (by omega)) (by rfl) (pda_cons (pd_ixV (pdv_var (pv 0)) (pdv_of (pd_c pe_int fun _ => .int _)) (fun _ _ => rfl)) pda_nil)))))) pds_nil)
      (pds_cons (pds_if (pdt_in (pd_ixV (pdv_var (pv 0)) (pdv_of (pd_c pe_int fun _ => .int _)) (fun _ _ => rfl)) (pd_gtup T.g_OVER_RANGES T.t_OVER_RANGES (fun _ => (.cons (.str _) (.cons (.str _) (.cons (.str _) (.cons (.str _) .nil))))) (by rfl))) (pds_one (pds_ret (pd_and (pd_eq hr.units (pd_lenV (by rfl) T.b_len (pdv_var (pv 0))) (pd_c pe_int fun _ => .int _)) (pd_one (pd_fn c_is_range (hr.mono (by omega)) (by rfl) (pda_cons (pd_ixV (pdv_var (pv 0)) (pdv_of (pd_c pe_int fun _ => .int _)) (fun _ _ => rfl)) pda_nil)))))) pds_nil)
      (pds_one (pds_ret (pd_or (pd_fn c_is_name (hr.mono (by omega)) (by rfl) (pda_cons (pd_var (pv 0)) pda_nil)) (pd_one (pd_fn c_is_long_formula (hr.mono (by omega)) (by rfl) (pda_cons (pd_var (pv 0)) pda_nil))))))))))), fun rs Q h => ?_⟩
  obtain ⟨f, rfl, ⟨sm, ok⟩, q⟩ := h
  dsimp only at q
  cases f with
  | num i =>
    rw [Fm.ok] at ok
    rw [Fm.d]
    refine ⟨rfl, ?_⟩
    (repeat (first | refine ⟨_, atI_zero, ?_⟩ | refine ⟨_, atI_of (j := 1) rfl rfl, ?_⟩ | refine ⟨_, atI_of (j := 2) rfl rfl, ?_⟩ | refine ⟨_, atI_of (j := 3) rfl rfl, ?_⟩ | refine ⟨_, atI_of (j := 4) rfl rfl, ?_⟩ | refine ⟨_, atI_of (j := 5) rfl rfl, ?_⟩ | refine ⟨le_szL rfl, ?_⟩ | refine ⟨rfl, rfl, ?_⟩))
    refine ⟨rfl, ?_⟩
    (repeat (first | refine ⟨_, atI_zero, ?_⟩ | refine ⟨_, atI_of (j := 1) rfl rfl, ?_⟩ | refine ⟨_, atI_of (j := 2) rfl rfl, ?_⟩ | refine ⟨_, atI_of (j := 3) rfl rfl, ?_⟩ | refine ⟨_, atI_of (j := 4) rfl rfl, ?_⟩ | refine ⟨_, atI_of (j := 5) rfl rfl, ?_⟩ | refine ⟨le_szL rfl, ?_⟩ | refine ⟨rfl, rfl, ?_⟩))
    refine ⟨rfl, ?_⟩
    show Q (.dt (.bl (isNum (.int i))))
    rw [ok]; exact q
  | emp => rw [Fm.d]; refine ⟨rfl, ?_⟩; (repeat (first | refine ⟨_, atI_zero, ?_⟩ | refine ⟨_, atI_of (j := 1) rfl rfl, ?_⟩ | refine ⟨_, atI_of (j := 2) rfl rfl, ?_⟩ | refine ⟨_, atI_of (j := 3) rfl rfl, ?_⟩ | refine ⟨_, atI_of (j := 4) rfl rfl, ?_⟩ | refine ⟨_, atI_of (j := 5) rfl rfl, ?_⟩ | refine ⟨le_szL rfl, ?_⟩ | refine ⟨rfl, rfl, ?_⟩)); refine ⟨rfl, ?_⟩; (repeat (first | refine ⟨_, atI_zero, ?_⟩ | refine ⟨_, atI_of (j := 1) rfl rfl, ?_⟩ | refine ⟨_, atI_of (j := 2) rfl rfl, ?_⟩ | refine ⟨_, atI_of (j := 3) rfl rfl, ?_⟩ | refine ⟨_, atI_of (j := 4) rfl rfl, ?_⟩ | refine ⟨_, atI_of (j := 5) rfl rfl, ?_⟩ | refine ⟨le_szL rfl, ?_⟩ | refine ⟨rfl, rfl, ?_⟩)); exact q
  | inp => rw [Fm.d]; refine ⟨rfl, ?_⟩; (repeat (first | refine ⟨_, atI_zero, ?_⟩ | refine ⟨_, atI_of (j := 1) rfl rfl, ?_⟩ | refine ⟨_, atI_of (j := 2) rfl rfl, ?_⟩ | refine ⟨_, atI_of (j := 3) rfl rfl, ?_⟩ | refine ⟨_, atI_of (j := 4) rfl rfl, ?_⟩ | refine ⟨_, atI_of (j := 5) rfl rfl, ?_⟩ | refine ⟨le_szL rfl, ?_⟩ | refine ⟨rfl, rfl, ?_⟩)); refine ⟨rfl, ?_⟩; (repeat (first | refine ⟨_, atI_zero, ?_⟩ | refine ⟨_, atI_of (j := 1) rfl rfl, ?_⟩ | refine ⟨_, atI_of (j := 2) rfl rfl, ?_⟩ | refine ⟨_, atI_of (j := 3) rfl rfl, ?_⟩ | refine ⟨_, atI_of (j := 4) rfl rfl, ?_⟩ | refine ⟨_, atI_of (j := 5) rfl rfl, ?_⟩ | refine ⟨le_szL rfl, ?_⟩ | refine ⟨rfl, rfl, ?_⟩)); exact q
  | nm c r =>
    rw [Fm.ok] at ok
    have pc := part_plain ok.1
    have pr := row_plain ok.2
    have pn : Pl (.tup [.str "name", c, r]) := by
      show (true && (plainD c && (plainD r && true))) = true
      rw [pc, pr]; rfl
    have en : isName (.tup [.str "name", c, r]) = true := by
      show (true && (isPart c && isRow r)) = true
      rw [ok.1, ok.2]; rfl
    rw [Fm.d]
    refine ⟨rfl, ?_⟩
    (repeat (first | refine ⟨_, atI_zero, ?_⟩ | refine ⟨_, atI_of (j := 1) rfl rfl, ?_⟩ | refine ⟨_, atI_of (j := 2) rfl rfl, ?_⟩ | refine ⟨_, atI_of (j := 3) rfl rfl, ?_⟩ | refine ⟨_, atI_of (j := 4) rfl rfl, ?_⟩ | refine ⟨_, atI_of (j := 5) rfl rfl, ?_⟩ | refine ⟨le_szL rfl, ?_⟩ | refine ⟨rfl, rfl, ?_⟩))
    refine ⟨rfl, ?_⟩
    (repeat (first | refine ⟨_, atI_zero, ?_⟩ | refine ⟨_, atI_of (j := 1) rfl rfl, ?_⟩ | refine ⟨_, atI_of (j := 2) rfl rfl, ?_⟩ | refine ⟨_, atI_of (j := 3) rfl rfl, ?_⟩ | refine ⟨_, atI_of (j := 4) rfl rfl, ?_⟩ | refine ⟨_, atI_of (j := 5) rfl rfl, ?_⟩ | refine ⟨le_szL rfl, ?_⟩ | refine ⟨rfl, rfl, ?_⟩))
    refine ⟨pn, if_yes en q⟩
  | rg w c a b =>
    rw [Fm.ok] at ok
    have pc := part_plain ok.1
    have pa := lim_plain ok.2.1
    have pb := lim_plain ok.2.2
    have pn : Pl (.tup [.str "rows", c, a, b]) := by
      show (true && (plainD c && (plainD a && (plainD b && true)))) = true
      rw [pc, pa, pb]; rfl
    have en : isRange (.tup [.str "rows", c, a, b]) = true := by
      show (true && (isPart c && (isLim a && isLim b))) = true
      rw [ok.1, ok.2.1, ok.2.2]; rfl
    rw [Fm.d]
    cases w <;> (
      refine ⟨rfl, ?_⟩
      (repeat (first | refine ⟨_, atI_zero, ?_⟩ | refine ⟨_, atI_of (j := 1) rfl rfl, ?_⟩ | refine ⟨_, atI_of (j := 2) rfl rfl, ?_⟩ | refine ⟨_, atI_of (j := 3) rfl rfl, ?_⟩ | refine ⟨_, atI_of (j := 4) rfl rfl, ?_⟩ | refine ⟨_, atI_of (j := 5) rfl rfl, ?_⟩ | refine ⟨le_szL rfl, ?_⟩ | refine ⟨rfl, rfl, ?_⟩))
      refine ⟨rfl, ?_⟩
      (repeat (first | refine ⟨_, atI_zero, ?_⟩ | refine ⟨_, atI_of (j := 1) rfl rfl, ?_⟩ | refine ⟨_, atI_of (j := 2) rfl rfl, ?_⟩ | refine ⟨_, atI_of (j := 3) rfl rfl, ?_⟩ | refine ⟨_, atI_of (j := 4) rfl rfl, ?_⟩ | refine ⟨_, atI_of (j := 5) rfl rfl, ?_⟩ | refine ⟨le_szL rfl, ?_⟩ | refine ⟨rfl, rfl, ?_⟩))
      refine ⟨pn, ?_⟩
      show Q (.dt (.bl (isRange (.tup [.str "rows", c, a, b]))))
      rw [en]; exact q)
  | node g xs =>
    have sp := sm.parts
    have pl := Nat.le_trans (parts_len (f := .node g xs)) sm.sz
    have wf := sm.wf
    rw [Fm.wf] at wf
    have ok0 := ok
    rw [Fm.ok] at ok
    have ok2 := okA_mem ok.2
    have key : Fm.long (.node g xs) → tFm (fun f => f.Sm (n + 1) ∧ f.ok ∧ Fm.long f) (fun f => .dt (.bl true)) [.dt (Fm.node g xs).d] Q := fun lg => ⟨_, rfl, ⟨sm, ok0, lg⟩, q⟩
    have pn : Pl (Fm.node g xs).d := ok_plain _ ok0
    rw [Fm.d] at key pn ⊢
    cases g with
    | mn w =>
      cases w <;> (
        refine ⟨rfl, ?_⟩
        (repeat (first | refine ⟨_, atI_zero, ?_⟩ | refine ⟨_, atI_of (j := 1) rfl rfl, ?_⟩ | refine ⟨_, atI_of (j := 2) rfl rfl, ?_⟩ | refine ⟨_, atI_of (j := 3) rfl rfl, ?_⟩ | refine ⟨_, atI_of (j := 4) rfl rfl, ?_⟩ | refine ⟨_, atI_of (j := 5) rfl rfl, ?_⟩ | refine ⟨le_szL rfl, ?_⟩ | refine ⟨rfl, rfl, ?_⟩))
        refine ⟨rfl, ?_⟩
        (repeat (first | refine ⟨_, atI_zero, ?_⟩ | refine ⟨_, atI_of (j := 1) rfl rfl, ?_⟩ | refine ⟨_, atI_of (j := 2) rfl rfl, ?_⟩ | refine ⟨_, atI_of (j := 3) rfl rfl, ?_⟩ | refine ⟨_, atI_of (j := 4) rfl rfl, ?_⟩ | refine ⟨_, atI_of (j := 5) rfl rfl, ?_⟩ | refine ⟨le_szL rfl, ?_⟩ | refine ⟨rfl, rfl, ?_⟩))
        exact ⟨xs, rfl, pl, fun x hx => ⟨sp x hx, ok2 x hx⟩, q⟩)
    | tm i =>
      obtain ⟨⟨a, rfl⟩, _⟩ := wf
      refine ⟨rfl, ?_⟩
      (repeat (first | refine ⟨_, atI_zero, ?_⟩ | refine ⟨_, atI_of (j := 1) rfl rfl, ?_⟩ | refine ⟨_, atI_of (j := 2) rfl rfl, ?_⟩ | refine ⟨_, atI_of (j := 3) rfl rfl, ?_⟩ | refine ⟨_, atI_of (j := 4) rfl rfl, ?_⟩ | refine ⟨_, atI_of (j := 5) rfl rfl, ?_⟩ | refine ⟨le_szL rfl, ?_⟩ | refine ⟨rfl, rfl, ?_⟩))
      refine ⟨rfl, ?_⟩
      (repeat (first | refine ⟨_, atI_zero, ?_⟩ | refine ⟨_, atI_of (j := 1) rfl rfl, ?_⟩ | refine ⟨_, atI_of (j := 2) rfl rfl, ?_⟩ | refine ⟨_, atI_of (j := 3) rfl rfl, ?_⟩ | refine ⟨_, atI_of (j := 4) rfl rfl, ?_⟩ | refine ⟨_, atI_of (j := 5) rfl rfl, ?_⟩ | refine ⟨le_szL rfl, ?_⟩ | refine ⟨rfl, rfl, ?_⟩))
      exact ⟨pn, key trivial⟩
    | ov =>
      obtain ⟨⟨a, b, rfl⟩, _⟩ := wf
      refine ⟨rfl, ?_⟩
      (repeat (first | refine ⟨_, atI_zero, ?_⟩ | refine ⟨_, atI_of (j := 1) rfl rfl, ?_⟩ | refine ⟨_, atI_of (j := 2) rfl rfl, ?_⟩ | refine ⟨_, atI_of (j := 3) rfl rfl, ?_⟩ | refine ⟨_, atI_of (j := 4) rfl rfl, ?_⟩ | refine ⟨_, atI_of (j := 5) rfl rfl, ?_⟩ | refine ⟨le_szL rfl, ?_⟩ | refine ⟨rfl, rfl, ?_⟩))
      refine ⟨rfl, ?_⟩
      (repeat (first | refine ⟨_, atI_zero, ?_⟩ | refine ⟨_, atI_of (j := 1) rfl rfl, ?_⟩ | refine ⟨_, atI_of (j := 2) rfl rfl, ?_⟩ | refine ⟨_, atI_of (j := 3) rfl rfl, ?_⟩ | refine ⟨_, atI_of (j := 4) rfl rfl, ?_⟩ | refine ⟨_, atI_of (j := 5) rfl rfl, ?_⟩ | refine ⟨le_szL rfl, ?_⟩ | refine ⟨rfl, rfl, ?_⟩))
      exact ⟨pn, key trivial⟩
    | cs s =>
      obtain ⟨⟨a, b, c, d, rfl⟩, _⟩ := wf
      refine ⟨rfl, ?_⟩
      (repeat (first | refine ⟨_, atI_zero, ?_⟩ | refine ⟨_, atI_of (j := 1) rfl rfl, ?_⟩ | refine ⟨_, atI_of (j := 2) rfl rfl, ?_⟩ | refine ⟨_, atI_of (j := 3) rfl rfl, ?_⟩ | refine ⟨_, atI_of (j := 4) rfl rfl, ?_⟩ | refine ⟨_, atI_of (j := 5) rfl rfl, ?_⟩ | refine ⟨le_szL rfl, ?_⟩ | refine ⟨rfl, rfl, ?_⟩))
      refine ⟨rfl, ?_⟩
      (repeat (first | refine ⟨_, atI_zero, ?_⟩ | refine ⟨_, atI_of (j := 1) rfl rfl, ?_⟩ | refine ⟨_, atI_of (j := 2) rfl rfl, ?_⟩ | refine ⟨_, atI_of (j := 3) rfl rfl, ?_⟩ | refine ⟨_, atI_of (j := 4) rfl rfl, ?_⟩ | refine ⟨_, atI_of (j := 5) rfl rfl, ?_⟩ | refine ⟨le_szL rfl, ?_⟩ | refine ⟨rfl, rfl, ?_⟩))
      exact ⟨pn, key trivial⟩
theorem ok_is_formula (T : Tx K mg) (D0 : Dfn K mg "is_formula" s_is_formula ["thing"]) (da : Dfn K mg "are_formulas" s_are_formulas ["thing"]) (dl : Dfn K mg "is_long_formula" s_is_long_formula ["thing"]) (c_is_number : C_is_number P w K mg base := by assumption) (c_is_name : C_is_name P w K mg base := by assumption) (c_is_range : C_is_range P w K mg base := by assumption) : ∀ n, C_is_formula n P w K mg base
  | 0 => fnx_no D0 (fun rs Q ⟨f, _, h, _⟩ => absurd h.1.hgt (Nat.not_lt_zero _)) _
  | n + 1 =>
    have c0 := ok_is_formula T D0 da dl c_is_number c_is_name c_is_range n
    have c1 := ok_are_formulas n T da c0
    have c2 := ok_is_long_formula n T dl c0 c1 c_is_number
    ok_is_formula1 n T c_is_number c_is_name c_is_range c1 c2 D0
end
end K20
set_option Elab.async false
set_option linter.all false
set_option maxRecDepth 100000
set_option maxHeartbeats 4000000
namespace K20
open PySem PySem.Spec PyProof.Rows L2 DL
section
variable {P : Program} {w : World} {K : PySem.W.Frag} {mg : Str → Option Value} {base : Heap}
def NumP (x : D) : Prop := isNum x = true
abbrev C__law_number (P : Program) (w : World) (K : PySem.W.Frag) (mg : Str → Option Value) (base : Heap) : Prop := FnX P w K mg base 3 "_law_number" 1 (tDraw NumP)
theorem ok_number (T : Tx K mg) (D0 : Dfn K mg "_law_number" s__law_number ["_law_bag_here"]) (c__law_take : CTake P w K mg base := by assumption) (c__law_one : COne P w K mg base := by assumption) : C__law_number P w K mg base := by
  refine FnX.of D0 sc__law_number rfl mono_tDraw len_tDraw fun f cdv A outer s H E hr => ⟨_, (pds_one (pds_ret (pd_fn c__law_one (hr.mono (by omega)) (by rfl) (pda_cons (pd_var (pv 0)) (pda_cons (pd_lst (pda_cons (pd_c pe_int fun _ => .int _) (pda_cons (pd_c pe_int fun _ => .int _) (pda_cons (pd_neg (pd_c pe_int fun _ => .int _)) (pda_cons (pd_c pe_int fun _ => .int _) (pda_cons (pd_c pe_int fun _ => .int _) (pda_cons (pd_neg (pd_c pe_int fun _ => .int _)) (pda_cons (pd_c pe_int fun _ => .int _) (pda_cons (pd_pow (pd_c pe_int fun _ => .int _) (pd_c pe_int fun _ => .int _)) (pda_cons (pd_neg (pd_pow (pd_c pe_int fun _ => .int _) (pd_c pe_int fun _ => .int _))) (pda_cons (pd_sub (pd_fn c__law_take (hr.mono (by omega)) (by rfl) (pda_cons (pd_var (pv 0)) (pda_cons (pd_c pe_int fun _ => .int _) pda_nil))) (pd_c pe_int fun _ => .int _)) pda_nil))))))))))) pda_nil))))), fun rs Q h => ?_⟩
  obtain ⟨rfl, q⟩ := tDraw_in h
  refine ⟨⟨by decide, by decide, by decide⟩, ⟨by decide, by decide, by decide⟩, by decide, by decide, fun d h0 h1 => ⟨le_szL rfl, Nat.lt_of_lt_of_le (by decide : (0 : Nat) < 10) (Nat.le_of_ble_eq_true rfl), Nat.lt_of_le_of_lt (Nat.le_of_ble_eq_true rfl : _ ≤ 100) (by decide), fun i x hx => q x ?_⟩⟩
  have hm := List.mem_of_getElem? hx
  simp only [List.mem_cons, List.not_mem_nil, or_false] at hm
  rcases hm with rfl | rfl | rfl | rfl | rfl | rfl | rfl | rfl | rfl | rfl
  all_goals first | rfl | skip
  show (decide (-(1000000000000 : Int) ≤ d - 100) && decide (d - 100 ≤ 1000000000000)) = true
  rw [decide_eq_true (by omega), decide_eq_true (by omega)]; rfl
abbrev C__law_column_part (P : Program) (w : World) (K : PySem.W.Frag) (mg : Str → Option Value) (base : Heap) : Prop := FnX P w K mg base 2 "_law_column_part" 1 (tDraw PartP)
theorem ok_part (T : Tx K mg) (D0 : Dfn K mg "_law_column_part" s__law_column_part ["_law_bag_here"]) (c__law_take : CTake P w K mg base := by assumption) : C__law_column_part P w K mg base := by
  refine FnX.of D0 sc__law_column_part rfl mono_tDraw len_tDraw fun f cdv A outer s H E hr => ⟨_, (pds_cons (pds_set (i := 1) sc__law_column_part.nd rfl (Or.inl rfl) (pd_fn c__law_take (hr.mono (by omega)) (by rfl) (pda_cons (pd_var (pv 0)) (pda_cons (pd_c pe_int fun _ => .int _) pda_nil))))
      (pds_cons (pds_if (pdt_eq hr.units (pd_var (pv 1)) (pd_c pe_int fun _ => .int _)) (pds_one (pds_ret (pd_tup (pda_cons (pd_c pe_str fun _ => .str _) pda_nil)))) pds_nil)
      (pds_one (pds_ret (pd_if (pdt_lt (pd_var (pv 1)) (pd_c pe_int fun _ => .int _)) (pd_tup (pda_cons (pd_c pe_str fun _ => .str _) (pda_cons (pd_fn c__law_take (hr.mono (by omega)) (by rfl) (pda_cons (pd_var (pv 0)) (pda_cons (pd_c pe_int fun _ => .int _) pda_nil))) pda_nil))) (pd_tup (pda_cons (pd_c pe_str fun _ => .str _) (pda_cons (pd_ix (pd_lst (pda_cons (pd_c pe_int fun _ => .int _) (pda_cons (pd_c pe_int fun _ => .int _) (pda_cons (pd_neg (pd_c pe_int fun _ => .int _)) (pda_cons (pd_c pe_int fun _ => .int _) (pda_cons (pd_sub (pd_fn c__law_take (hr.mono (by omega)) (by rfl) (pda_cons (pd_var (pv 0)) (pda_cons (pd_c pe_int fun _ => .int _) pda_nil))) (pd_c pe_int fun _ => .int _)) pda_nil)))))) (pd_fn c__law_take (hr.mono (by omega)) (by rfl) (pda_cons (pd_var (pv 0)) (pda_cons (pd_c pe_int fun _ => .int _) pda_nil))) (fun _ _ => rfl)) pda_nil)))))))), fun rs Q h => ?_⟩
  obtain ⟨rfl, q⟩ := tDraw_in h
  refine ⟨by decide, by decide, fun d h0 h1 => ⟨rfl, rfl, ?_⟩⟩
  refine if_both (fun _ => ⟨by decide, q _ partP_lost⟩) fun _ => ?_
  refine if_both (a := decide (d < 3)) (fun _ => ?_) fun _ => ?_
  · exact ⟨by decide, by decide, fun e e0 e1 => ⟨by show 2 ≤ sizeLine; decide, q _ (partP_at e0 (by omega))⟩⟩
  · refine ⟨by decide, by decide, fun e e0 e1 => ⟨by show 5 ≤ sizeLine; decide, by decide, by decide, fun g g0 g1 => ?_⟩⟩
    obtain ⟨x, hx, hm⟩ := pick (xs := [.int 0, .int 0, .int (-1), .int 1, .int (e - 7)]) g0 g1
    refine ⟨x, hx, by show 2 ≤ sizeLine; decide, q _ ?_⟩
    simp only [List.mem_cons, List.not_mem_nil, or_false] at hm
    rcases hm with rfl | rfl | rfl | rfl | rfl <;> exact partP_by (by omega)
def NmP (p : Str) (x : D) : Prop := ∃ c r, x = (Rd.nm c r).d ∧ RdP p (.nm c r)
def RgP (p : Str) (x : D) : Prop := p ≠ "head" → ∃ c a b, x = (Rd.rg c a b).d ∧ RdP p (.rg c a b)
abbrev C__law_range (P : Program) (w : World) (K : PySem.W.Frag) (mg : Str → Option Value) (base : Heap) : Prop := FnX P w K mg base 3 "_law_range" 2 (tDr2 RgP)
abbrev C__law_name (P : Program) (w : World) (K : PySem.W.Frag) (mg : Str → Option Value) (base : Heap) : Prop := FnX P w K mg base 3 "_law_name" 2 (tDr2 NmP)
theorem ok_range (T : Tx K mg) (D0 : Dfn K mg "_law_range" s__law_range ["_law_bag_here", "_law_place"]) (c__law_take : CTake P w K mg base := by assumption) (c__law_column_part : C__law_column_part P w K mg base := by assumption) : C__law_range P w K mg base := by
  refine FnX.of D0 sc__law_range rfl mono_tDr2 len_tDr2 fun f cdv A outer s H E hr => ⟨_, (pds_cons (pds_unpack (pd_tup (pda_cons (pd_c pe_non fun _ => .non) (pda_cons (pd_c pe_non fun _ => .non) pda_nil))) (pdg_names (is := [2, 3]) (pg_tup rfl (pgs_cons (pg_name (i := 2) sc__law_range.nd rfl (Or.inl rfl)) (pgs_cons (pg_name (i := 3) sc__law_range.nd rfl (Or.inl rfl)) pgs_nil))) rfl))
      (pds_cons (pds_if (PDW.t (pdw_and (pdt_eq hr.units (pd_var (pv 1)) (pd_c pe_str fun _ => .str _)) (pdw_and1 (pdt_gt (pd_fn c__law_take (hr.mono (by omega)) (by rfl) (pda_cons (pd_var (pv 0)) (pda_cons (pd_c pe_int fun _ => .int _) pda_nil))) (pd_c pe_int fun _ => .int _))))) (pds_one (pds_set (i := 2) sc__law_range.nd rfl (Or.inl rfl) (pd_sub (pd_fn c__law_take (hr.mono (by omega)) (by rfl) (pda_cons (pd_var (pv 0)) (pda_cons (pd_c pe_int fun _ => .int _) pda_nil))) (pd_c pe_int fun _ => .int _)))) pds_nil)
      (pds_cons (pds_if (PDW.t (pdw_and (pdt_eq hr.units (pd_var (pv 1)) (pd_c pe_str fun _ => .str _)) (pdw_and1 (pdt_gt (pd_fn c__law_take (hr.mono (by omega)) (by rfl) (pda_cons (pd_var (pv 0)) (pda_cons (pd_c pe_int fun _ => .int _) pda_nil))) (pd_c pe_int fun _ => .int _))))) (pds_one (pds_set (i := 3) sc__law_range.nd rfl (Or.inl rfl) (pd_sub (pd_fn c__law_take (hr.mono (by omega)) (by rfl) (pda_cons (pd_var (pv 0)) (pda_cons (pd_c pe_int fun _ => .int _) pda_nil))) (pd_c pe_int fun _ => .int _)))) pds_nil)
      (pds_one (pds_ret (pd_tup (pda_cons (pd_c pe_str fun _ => .str _) (pda_cons (pd_fn c__law_column_part (hr.mono (by omega)) (by rfl) (pda_cons (pd_var (pv 0)) pda_nil)) (pda_cons (pd_var (pv 2)) (pda_cons (pd_var (pv 3)) pda_nil)))))))))), fun rs Q h => ?_⟩
  obtain ⟨p, rfl, hp, q⟩ := h
  refine ⟨(by decide : (2 : Nat) ≤ sizeLine), rfl, ?_⟩
  dsimp only [startD, List.cons_append, List.nil_append]
  refine seq_N (fun δ => ∃ d, (d = .non ∨ p = "body" ∧ ∃ i : Int, d = .int i ∧ i.natAbs < 100) ∧ δ = [.bag, .dt (.str p), .dt d, .dt .non]) ?_ ?_
  · intro N hN
    refine if_both (fun e => ?_) fun _ => hN _ ⟨_, .inl rfl, rfl⟩
    have e := of_decide_eq_true e
    refine ⟨by decide, by decide, fun d h0 h1 => if_both (fun _ => ?_) fun _ => hN _ ⟨_, .inl rfl, rfl⟩⟩
    exact ⟨by decide, by decide, fun x e0 e1 => hN _ ⟨_, .inr ⟨e, x - 5, rfl, by omega⟩, rfl⟩⟩
  rintro δ ⟨lo, hlo, rfl⟩
  refine seq_N (fun δ => ∃ d, (d = .non ∨ p = "body" ∧ ∃ i : Int, d = .int i ∧ i.natAbs < 100) ∧ δ = [.bag, .dt (.str p), .dt lo, .dt d]) ?_ ?_
  · intro N hN
    refine if_both (fun e => ?_) fun _ => hN _ ⟨_, .inl rfl, rfl⟩
    have e := of_decide_eq_true e
    refine ⟨by decide, by decide, fun d h0 h1 => if_both (fun _ => ?_) fun _ => hN _ ⟨_, .inl rfl, rfl⟩⟩
    exact ⟨by decide, by decide, fun x e0 e1 => hN _ ⟨_, .inr ⟨e, x - 5, rfl, by omega⟩, rfl⟩⟩
  rintro δ ⟨hi, hhi, rfl⟩
  intro x hx
  refine ⟨(by decide : (4 : Nat) ≤ sizeLine), q _ fun np => ⟨x, lo, hi, rfl, rdp_rg hx (hlo.imp id fun z => z.2) (hhi.imp id fun z => z.2) ?_⟩⟩
  cases hp with
  | head => exact absurd rfl np
  | body => exact .inl rfl
  | foot =>
    refine .inr ⟨rfl, ?_, ?_⟩
    · rcases hlo with rfl | ⟨z, _⟩
      · rfl
      · exact absurd z (by decide)
    · rcases hhi with rfl | ⟨z, _⟩
      · rfl
      · exact absurd z (by decide)
theorem ok_name (T : Tx K mg) (D0 : Dfn K mg "_law_name" s__law_name ["_law_bag_here", "_law_place"]) (c__law_take : CTake P w K mg base := by assumption) (c__law_column_part : C__law_column_part P w K mg base := by assumption) : C__law_name P w K mg base := by
  refine FnX.of D0 sc__law_name rfl mono_tDr2 len_tDr2 fun f cdv A outer s H E hr => ⟨_, (pds_cons (pds_set (i := 2) sc__law_name.nd rfl (Or.inl rfl) (pd_fn c__law_take (hr.mono (by omega)) (by rfl) (pda_cons (pd_var (pv 0)) (pda_cons (pd_c pe_int fun _ => .int _) pda_nil))))
      (pds_cons (pds_set (i := 3) sc__law_name.nd rfl (Or.inl rfl) (pd_tup (pda_cons (pd_c pe_str fun _ => .str _) pda_nil)))
      (pds_cons (pds_if (PDW.t (pdw_and (pdt_eq hr.units (pd_var (pv 1)) (pd_c pe_str fun _ => .str _)) (pdw_and1 (pdt_gt (pd_var (pv 2)) (pd_c pe_int fun _ => .int _))))) (pds_one (pds_set (i := 3) sc__law_name.nd rfl (Or.inl rfl) (pd_tup (pda_cons (pd_c pe_str fun _ => .str _) (pda_cons (pd_ix (pd_lst (pda_cons (pd_c pe_int fun _ => .int _) (pda_cons (pd_neg (pd_c pe_int fun _ => .int _)) (pda_cons (pd_neg (pd_c pe_int fun _ => .int _)) (pda_cons (pd_c pe_int fun _ => .int _) (pda_cons (pd_sub (pd_fn c__law_take (hr.mono (by omega)) (by rfl) (pda_cons (pd_var (pv 0)) (pda_cons (pd_c pe_int fun _ => .int _) pda_nil))) (pd_c pe_int fun _ => .int _)) pda_nil)))))) (pd_fn c__law_take (hr.mono (by omega)) (by rfl) (pda_cons (pd_var (pv 0)) (pda_cons (pd_c pe_int fun _ => .int _) pda_nil))) (fun _ _ => rfl)) pda_nil))))) pds_nil)
      (pds_cons (pds_if (PDW.t (pdw_and (pdt_eq hr.units (pd_var (pv 1)) (pd_c pe_str fun _ => .str _)) (pdw_and1 (pdt_gt (pd_var (pv 2)) (pd_c pe_int fun _ => .int _))))) (pds_one (pds_set (i := 3) sc__law_name.nd rfl (Or.inl rfl) (pd_if (pdt_eq hr.units (pd_var (pv 2)) (pd_c pe_int fun _ => .int _)) (pd_tup (pda_cons (pd_c pe_str fun _ => .str _) pda_nil)) (pd_tup (pda_cons (pd_c pe_str fun _ => .str _) (pda_cons (pd_ix (pd_lst (pda_cons (pd_c pe_int fun _ => .int _) (pda_cons (pd_c pe_int fun _ => .int _) (pda_cons (pd_fn c__law_take (hr.mono (by omega)) (by rfl) (pda_cons (pd_var (pv 0)) (pda_cons (pd_c pe_int fun _ => .int _) pda_nil))) pda_nil)))) (pd_fn c__law_take (hr.mono (by omega)) (by rfl) (pda_cons (pd_var (pv 0)) (pda_cons (pd_c pe_int fun _ => .int _) pda_nil))) (fun _ _ => rfl)) pda_nil)))))) pds_nil)
      (pds_one (pds_ret (pd_tup (pda_cons (pd_c pe_str fun _ => .str _) (pda_cons (pd_fn c__law_column_part (hr.mono (by omega)) (by rfl) (pda_cons (pd_var (pv 0)) pda_nil)) (pda_cons (pd_var (pv 3)) pda_nil)))))))))), fun rs Q h => ?_⟩
  obtain ⟨p, rfl, hp, q⟩ := h
  dsimp only [startD, List.cons_append, List.nil_append]
  refine ⟨by decide, by decide, fun kd h0 h1 => ⟨(by decide : (1 : Nat) ≤ sizeLine), ?_⟩⟩
  dsimp only
  refine seq_N (δ := [.bag, .dt (.str p), .dt (.int kd), .dt (.tup [.str "head"])]) (fun δ => ∃ d, RowP p d ∧ δ = [.bag, .dt (.str p), .dt (.int kd), .dt d]) ?_ ?_
  · intro N hN
    have here : N [.bag, .dt (.str p), .dt (.int kd), .dt (.tup [.str "head"])] := hN _ ⟨_, rowP_head, rfl⟩
    refine if_both (fun e => if_both (fun _ => ?_) fun _ => here) fun _ => here
    have e := of_decide_eq_true e
    subst e
    refine ⟨by decide, by decide, fun e e0 e1 => ⟨(by decide : (5 : Nat) ≤ sizeLine), by decide, by decide, fun g g0 g1 => ?_⟩⟩
    obtain ⟨x, hx, hm⟩ := pick (xs := [.int 0, .int (-1), .int (-1), .int 1, .int (e - 5)]) g0 g1
    have hi : ∃ i : Int, x = .int i ∧ i.natAbs < 100 := by
      simp only [List.mem_cons, List.not_mem_nil, or_false] at hm
      rcases hm with rfl | rfl | rfl | rfl | rfl <;> exact ⟨_, rfl, by omega⟩
    obtain ⟨i, rfl, hi⟩ := hi
    exact ⟨_, hx, (by decide : (2 : Nat) ≤ sizeLine), hN _ ⟨_, rowP_by hi, rfl⟩⟩
  rintro δ ⟨r1, hr1, rfl⟩
  refine seq_N (fun δ => ∃ d, RowP p d ∧ δ = [.bag, .dt (.str p), .dt (.int kd), .dt d]) ?_ ?_
  · intro N hN
    have here : N [.bag, .dt (.str p), .dt (.int kd), .dt r1] := hN _ ⟨_, hr1, rfl⟩
    refine if_both (fun e => if_both (fun _ => ?_) fun _ => here) fun _ => here
    have e := of_decide_eq_true e
    subst e
    refine ⟨rfl, rfl, if_both (fun _ => ⟨(by decide : (1 : Nat) ≤ sizeLine), hN _ ⟨_, rowP_foot, rfl⟩⟩) fun _ => ?_⟩
    refine ⟨by decide, by decide, fun e e0 e1 => ⟨(by decide : (3 : Nat) ≤ sizeLine), by decide, by decide, fun g g0 g1 => ?_⟩⟩
    obtain ⟨x, hx, hm⟩ := pick (xs := [.int 0, .int 0, .int e]) g0 g1
    have hi : ∃ i : Int, x = .int i ∧ 0 ≤ i ∧ i < 100 := by
      simp only [List.mem_cons, List.not_mem_nil, or_false] at hm
      rcases hm with rfl | rfl | rfl
      · exact ⟨0, rfl, by decide, by decide⟩
      · exact ⟨0, rfl, by decide, by decide⟩
      · exact ⟨_, rfl, by omega, by omega⟩
    obtain ⟨i, rfl, hi, hi2⟩ := hi
    exact ⟨_, hx, (by decide : (2 : Nat) ≤ sizeLine), hN _ ⟨_, rowP_last hi hi2, rfl⟩⟩
  rintro δ ⟨r2, hr2, rfl⟩
  intro x hx
  exact ⟨(by decide : (3 : Nat) ≤ sizeLine), q _ ⟨x, r2, rfl, rdp_nm hx hr2⟩⟩
end
end K20
set_option Elab.async false
set_option linter.all false
set_option maxRecDepth 100000
set_option maxHeartbeats 4000000
namespace K20
open PySem PySem.Spec PyProof.Rows L2 DL
def tForm (n : Nat) : TF := fun rs Q => ∃ (p : Str) (deep : Int), rs = [.bag, .dt (.str p), .dt (.int deep), .cnt] ∧ IsPl p ∧ deep.toNat < n ∧ deep ≤ 4 ∧ ∀ f, Gf p deep.toNat f → Q (.dt f.d)
theorem mono_tForm {n : Nat} : MonoF (tForm n) := fun rs Q Q' ⟨p, d, e, h1, h2, h3, q⟩ w => ⟨p, d, e, h1, h2, h3, fun f hf => w _ (q f hf)⟩
theorem len_tForm {n : Nat} : ∀ rs Q, tForm n rs Q → rs.length = 4 := fun rs Q ⟨p, d, e, _⟩ => by rw [e]; rfl
theorem nc_form {n : Nat} : ∀ rs (Q : Sl → Prop), tForm n rs Q → tForm n rs fun r => r ≠ .cnt ∧ Q r := fun rs Q ⟨p, d, e, h1, h2, h3, q⟩ => ⟨p, d, e, h1, h2, h3, fun f hf => ⟨(fun z => by cases z), q f hf⟩⟩
theorem num_int {x : D} (h : NumP x) : ∃ i, x = .int i ∧ isNum (.int i) = true := by
  cases x <;> first | exact ⟨_, rfl, h⟩ | cases h
section
variable {P : Program} {w : World} {K : PySem.W.Frag} {mg : Str → Option Value} {base : Heap}
abbrev C__law_formula (n : Nat) (P : Program) (w : World) (K : PySem.W.Frag) (mg : Str → Option Value) (base : Heap) : Prop := FnX P w K mg base (4 + n) "_law_formula" 4 (tForm n)
theorem ok_formula1 (n : Nat) (T : Tx K mg) (c__law_take : CTake P w K mg base) (c__law_one : COne P w K mg base) (c__law_number : C__law_number P w K mg base) (c__law_name : C__law_name P w K mg base) (c__law_range : C__law_range P w K mg base) (c__law_formula : C__law_formula n P w K mg base) (D0 : Dfn K mg "_law_formula" s__law_formula ["_law_bag_here", "_law_place", "_law_deep", "_law_left"]) : C__law_formula (n + 1) P w K mg base := by
  refine FnX.of (k := 4 + n) D0 sc__law_formula rfl mono_tForm len_tForm fun f cdv A outer s H E hr => ⟨_, (pds_cons (pds_set (i := 4) sc__law_formula.nd rfl (Or.inl rfl) (pd_fn c__law_take (hr.mono (by omega)) (by rfl) (pda_cons (pd_var (pv 0)) (pda_cons (pd_if (pdt_gt (pd_var (pv 2)) (pd_c pe_int fun _ => .int _)) (pd_c pe_int fun _ => .int _) (pd_c pe_int fun _ => .int _)) pda_nil))))
      (pds_cons (pds_if (PDW.t (pdw_or (pdt_eq hr.units (pd_var (pv 4)) (pd_c pe_int fun _ => .int _)) (pdw_or1 (PDW.t (pdw_and (pdt_eq hr.units (pd_cnt (pv 3) pe_int (fun _ _ => rfl)) (pd_c pe_int fun _ => .int _)) (pdw_and1 (pdt_lt (pd_var (pv 4)) (pd_c pe_int fun _ => .int _)))))))) (pds_one (pds_ret (pd_tup (pda_cons (pd_c pe_str fun _ => .str _) (pda_cons (pd_fn c__law_number (hr.mono (by omega)) (by rfl) (pda_cons (pd_var (pv 0)) pda_nil)) pda_nil))))) pds_nil)
      (pds_cons (pds_if (pdt_eq hr.units (pd_var (pv 4)) (pd_c pe_int fun _ => .int _)) (pds_one (pds_ret (pd_tup (pda_cons (pd_c pe_str fun _ => .str _) pda_nil)))) pds_nil)
      (pds_cons (pds_if (PDW.t (pdw_or (pdt_lt (pd_var (pv 4)) (pd_c pe_int fun _ => .int _)) (pdw_or1 (PDW.t (pdw_and (pdt_eq hr.units (pd_var (pv 1)) (pd_c pe_str fun _ => .str _)) (pdw_and1 (pdt_eq hr.units (pd_var (pv 4)) (pd_c pe_int fun _ => .int _)))))))) (pds_cons (pds_cnt (pv 3) pe_int pe_int)
      (pds_one (pds_ret (pd_fn c__law_name (hr.mono (by omega)) (by rfl) (pda_cons (pd_var (pv 0)) (pda_cons (pd_var (pv 1)) pda_nil)))))) pds_nil)
      (pds_cons (pds_if (PDW.t (pdw_or (pdt_eq hr.units (pd_var (pv 4)) (pd_c pe_int fun _ => .int _)) (pdw_or1 (PDW.t (pdw_and (pdt_gt (pd_cnt (pv 3) pe_int (fun _ _ => rfl)) (pd_c pe_int fun _ => .int _)) (pdw_and (pdt_ne hr.units (pd_var (pv 1)) (pd_c pe_str fun _ => .str _)) (pdw_and (pdt_eq hr.units (pd_var (pv 4)) (pd_c pe_int fun _ => .int _)) (pdw_and1 (pdt_gt (pd_var (pv 2)) (pd_c pe_int fun _ => .int _)))))))))) (pds_cons (pds_cnt (pv 3) pe_int pe_int)
      (pds_one (pds_ret (pd_tup (pda_cons (pd_fn c__law_one (hr.mono (by omega)) (by rfl) (pda_cons (pd_var (pv 0)) (pda_cons (pd_lst (pda_cons (pd_c pe_str fun _ => .str _) (pda_cons (pd_c pe_str fun _ => .str _) (pda_cons (pd_c pe_str fun _ => .str _) (pda_cons (pd_c pe_str fun _ => .str _) (pda_cons (pd_c pe_str fun _ => .str _) pda_nil)))))) pda_nil))) (pda_cons (pd_fn c__law_range (hr.mono (by omega)) (by rfl) (pda_cons (pd_var (pv 0)) (pda_cons (pd_var (pv 1)) pda_nil))) pda_nil)))))) pds_nil)
      (pds_cons (pds_if (pdt_lt (pd_var (pv 4)) (pd_c pe_int fun _ => .int _)) (pds_cons (pds_setLc (i := 5) rfl sc__law_formula.nd rfl rfl (sw_true rfl rfl rfl (by decide +kernel)) (pdi_rng1 (by rfl) T.b_range (pda_cons (pd_fn c__law_take (hr.mono (by omega)) (by rfl) (pda_cons (pd_var (pv 0)) (pda_cons (pd_c pe_int fun _ => .int _) pda_nil))) pda_nil)) (blkOk_by (own := [("_law_k", 6)]) (N := ["_law_bag_here", "_law_place", "_law_deep", "_law_left", "_law_kind", "_law_some", "_law_k", "_law_one_here", "_law_other", "_law_then", "_law_rest"]) (sc := defScope s__law_formula) (by decide +kernel)) rfl (fun _ _ _ _ _ => (pdg_name (pg_name (i := 6) sc__law_formula.nd rfl (Or.inl rfl)))) (fun _ _ _ _ _ => pdts_nil) (fun _ _ _ _ _ => (pd_fn c__law_formula (hr.mono (by omega)) (by rfl) (pda_cons (pd_var (pv 0)) (pda_cons (pd_var (pv 1)) (pda_cons (pd_sub (pd_var (pv 2)) (pd_c pe_int fun _ => .int _)) (pda_cons (pd_var (pv 3)) pda_nil)))))))
      (pds_one (pds_ret (pd_tup (pda_cons (pd_ix (pd_lst (pda_cons (pd_c pe_str fun _ => .str _) (pda_cons (pd_c pe_str fun _ => .str _) (pda_cons (pd_c pe_str fun _ => .str _) (pda_cons (pd_c pe_str fun _ => .str _) pda_nil))))) (pd_sub (pd_var (pv 4)) (pd_c pe_int fun _ => .int _)) (fun _ _ => rfl)) (pda_cons (pd_tupleV (by rfl) T.b_tuple (pdv_var (pv 5))) pda_nil)))))) pds_nil)
      (pds_cons (pds_if (pdt_lt (pd_var (pv 4)) (pd_c pe_int fun _ => .int _)) (pds_one (pds_ret (pd_tup (pda_cons (pd_c pe_str fun _ => .str _) (pda_cons (pd_fn c__law_number (hr.mono (by omega)) (by rfl) (pda_cons (pd_var (pv 0)) pda_nil)) (pda_cons (pd_fn c__law_formula (hr.mono (by omega)) (by rfl) (pda_cons (pd_var (pv 0)) (pda_cons (pd_var (pv 1)) (pda_cons (pd_sub (pd_var (pv 2)) (pd_c pe_int fun _ => .int _)) (pda_cons (pd_var (pv 3)) pda_nil))))) pda_nil)))))) pds_nil)
      (pds_cons (pds_par2 (i := 7) (j := 8) rfl sc__law_formula.nd rfl rfl (by decide) rfl rfl (pd_fn c__law_formula (hr.mono (by omega)) (by rfl) (pda_cons (pd_var (pv 0)) (pda_cons (pd_var (pv 1)) (pda_cons (pd_sub (pd_var (pv 2)) (pd_c pe_int fun _ => .int _)) (pda_cons (pd_var (pv 3)) pda_nil))))) (pd_fn c__law_formula (hr.mono (by omega)) (by rfl) (pda_cons (pd_var (pv 0)) (pda_cons (pd_var (pv 1)) (pda_cons (pd_sub (pd_var (pv 2)) (pd_c pe_int fun _ => .int _)) (pda_cons (pd_var (pv 3)) pda_nil))))) (by rfl))
      (pds_cons (pds_if (pdt_eq hr.units (pd_var (pv 4)) (pd_c pe_int fun _ => .int _)) (pds_one (pds_ret (pd_tup (pda_cons (pd_c pe_str fun _ => .str _) (pda_cons (pd_var (pv 7)) (pda_cons (pd_var (pv 8)) pda_nil)))))) pds_nil)
      (pds_cons (pds_par2 (i := 9) (j := 10) rfl sc__law_formula.nd rfl rfl (by decide) rfl rfl (pd_fn c__law_formula (hr.mono (by omega)) (by rfl) (pda_cons (pd_var (pv 0)) (pda_cons (pd_var (pv 1)) (pda_cons (pd_sub (pd_var (pv 2)) (pd_c pe_int fun _ => .int _)) (pda_cons (pd_var (pv 3)) pda_nil))))) (pd_fn c__law_formula (hr.mono (by omega)) (by rfl) (pda_cons (pd_var (pv 0)) (pda_cons (pd_var (pv 1)) (pda_cons (pd_sub (pd_var (pv 2)) (pd_c pe_int fun _ => .int _)) (pda_cons (pd_var (pv 3)) pda_nil))))) (by rfl))
      (pds_one (pds_ret (pd_tup (pda_cons (pd_c pe_str fun _ => .str _) (pda_cons (pd_var (pv 7)) (pda_cons (pd_fn c__law_one (hr.mono (by omega)) (by rfl) (pda_cons (pd_var (pv 0)) (pda_cons (pd_lst (pda_cons (pd_c pe_str fun _ => .str _) (pda_cons (pd_c pe_str fun _ => .str _) (pda_cons (pd_c pe_str fun _ => .str _) (pda_cons (pd_c pe_str fun _ => .str _) (pda_cons (pd_c pe_str fun _ => .str _) (pda_cons (pd_c pe_str fun _ => .str _) pda_nil))))))) pda_nil))) (pda_cons (pd_var (pv 8)) (pda_cons (pd_var (pv 9)) (pda_cons (pd_var (pv 10)) pda_nil))))))))))))))))))), fun rs Q h => ?_⟩
  obtain ⟨p, deep, rfl, hp, hn, h4, q⟩ := h
  have up : ∀ {f : Fm}, Gf p 0 f → Q (.dt f.d) := fun hf => q _ (hf.mono (Nat.zero_le _))
  have nd : ∀ {g : Hd} {xs : List Fm}, 0 < deep → (∀ x ∈ xs, Gf p ((deep - 1).toNat) x) → xs.length ≤ 6 → g.fit xs → g.ok → Q (.dt (Fm.node g xs).d) := fun h0 h1 h2 h3 h5 => by
    have z := gf_node h1 h2 h3 h5
    rw [show (deep - 1).toNat + 1 = deep.toNat by omega] at z
    exact q _ z
  dsimp only [startD, List.cons_append, List.nil_append]
  refine seq_N (fun δ => ∃ kd : Int, 0 ≤ kd ∧ kd < 13 ∧ (kd < 5 ∨ 0 < deep) ∧ δ = [.bag, .dt (.str p), .dt (.int deep), .cnt, .dt (.int kd), .no, .no, .no, .no, .no, .no]) ?_ ?_
  · intro N hN
    refine if_both (fun e => ?_) fun e => ?_
    · exact ⟨by decide, by decide, fun kd h0 h1 => hN _ ⟨kd, h0, h1, .inr (of_decide_eq_true e), rfl⟩⟩
    · exact ⟨by decide, by decide, fun kd h0 h1 => hN _ ⟨kd, h0, by omega, .inl h1, rfl⟩⟩
  rintro δ ⟨kd, k0, k1, k2, rfl⟩
  have rNum : ∀ x, NumP x → Q (.dt (.tup [.str "number", x])) := fun x hx => by
    obtain ⟨i, rfl, hi⟩ := num_int hx
    have z := up (gf_num hi)
    rw [Fm.d] at z
    exact z
  refine seq_N (fun δ => kd ≠ 0 ∧ δ = [.bag, .dt (.str p), .dt (.int deep), .cnt, .dt (.int kd), .no, .no, .no, .no, .no, .no]) ?_ ?_
  · intro N hN
    refine ⟨rfl, rfl, ?_⟩
    refine if_both (fun e => if_yes rfl fun x hx => ⟨le_szL rfl, rNum x hx⟩) fun e => ?_
    have e : (kd == 0) = false := e
    rw [beq_eq_false_iff_ne] at e
    intro m
    refine ⟨rfl, rfl, ?_⟩
    refine if_both (fun e1 => ?_) fun e1 => if_no rfl (hN _ ⟨e, rfl⟩)
    refine if_both (fun e2 => fun x hx => ⟨le_szL rfl, rNum x hx⟩) fun e2 => hN _ ⟨e, rfl⟩
  rintro δ ⟨n0, rfl⟩
  refine seq_N (fun δ => kd ≠ 1 ∧ δ = [.bag, .dt (.str p), .dt (.int deep), .cnt, .dt (.int kd), .no, .no, .no, .no, .no, .no]) ?_ ?_
  · intro N hN
    refine ⟨rfl, rfl, ?_⟩
    refine if_both (fun e => ⟨le_szL rfl, ?_⟩) fun e => hN _ ⟨?_, rfl⟩
    · have z := up gf_emp
      rw [Fm.d] at z
      exact z
    · have e : (kd == 1) = false := e
      rw [beq_eq_false_iff_ne] at e
      exact e
  rintro δ ⟨n1, rfl⟩
  have rNm : ∀ x, NmP p x → Q (.dt x) := fun x hx => by
    obtain ⟨c, r, rfl, hx⟩ := hx
    have z := up (gf_nm hx)
    rw [Fm.d] at z
    exact z
  refine seq_N (fun δ => ¬ kd < 4 ∧ ¬ (p = "head" ∧ kd = 4) ∧ δ = [.bag, .dt (.str p), .dt (.int deep), .cnt, .dt (.int kd), .no, .no, .no, .no, .no, .no]) ?_ ?_
  · intro N hN
    refine if_both (fun e => if_yes rfl ⟨p, rfl, hp, rNm⟩) fun e => ?_
    have e := of_decide_eq_false e
    refine if_both (fun e1 => ?_) fun e1 => if_no rfl (hN _ ⟨e, fun z => of_decide_eq_false e1 z.1, rfl⟩)
    refine ⟨rfl, rfl, ?_⟩
    refine if_both (fun e2 => ⟨p, rfl, hp, rNm⟩) fun e2 => hN _ ⟨e, fun z => ?_, rfl⟩
    have e2 : (kd == 4) = false := e2
    rw [beq_eq_false_iff_ne] at e2
    exact e2 z.2
  rintro δ ⟨n2, n3, rfl⟩
  have rRg : p ≠ "head" → ∀ (i : Nat) (x : D), ([.str "total", .str "total", .str "many", .str "top", .str "low"] : List D)[i]? = some x → ∀ y, RgP p y → Q (.dt (.tup [x, y])) := fun np i x hi y hy => by
    obtain ⟨c, a, b, rfl, hy2⟩ := hy np
    have hm := List.mem_of_getElem? hi
    simp only [List.mem_cons, List.not_mem_nil, or_false] at hm
    have z : ∀ v : WR, Q (.dt (.tup [.str v.s, .tup [.str "rows", c, a, b]])) := fun v => by
      have z := up (gf_rg (w := v) hy2)
      rw [Fm.d] at z
      exact z
    rcases hm with rfl | rfl | rfl | rfl | rfl
    · exact z .total
    · exact z .total
    · exact z .many
    · exact z .top
    · exact z .low
  refine seq_N (fun δ => kd ≠ 4 ∧ δ = [.bag, .dt (.str p), .dt (.int deep), .cnt, .dt (.int kd), .no, .no, .no, .no, .no, .no]) ?_ ?_
  · intro N hN
    have one : p ≠ "head" → tOne [.bag, .dt (.lst [.str "total", .str "total", .str "many", .str "top", .str "low"])] fun r => match az r with
        | none => False
        | some r' => tdCons (tdCall (tDr2 RgP) (tdCons (tdVar 0) (tdCons (tdVar 1) tdNil))) tdNil [.bag, .dt (.str p), .dt (.int deep), .cnt, .dt (.int kd), .no, .no, .no, .no, .no, .no] fun rs δ2 => match datas (r' :: rs) with
          | some ds => ds.length ≤ sizeLine ∧ Q (.dt (.tup ds))
          | none => False := fun np => ⟨by decide, by decide, fun i x hi => ⟨p, rfl, hp, fun y hy => ⟨le_szL rfl, rRg np i x hi y hy⟩⟩⟩
    refine ⟨rfl, rfl, ?_⟩
    refine if_both (fun e => if_yes rfl ⟨le_szL rfl, one ?_⟩) fun e => ?_
    · have e : (kd == 4) = true := e
      exact fun z => n3 ⟨z, eq_of_beq e⟩
    have e : (kd == 4) = false := e
    rw [beq_eq_false_iff_ne] at e
    intro m
    refine if_both (fun e1 => ?_) fun e1 => if_no rfl (hN _ ⟨e, rfl⟩)
    refine if_both (fun e2 => ?_) fun e2 => if_no rfl (hN _ ⟨e, rfl⟩)
    refine ⟨rfl, rfl, ?_⟩
    refine if_both (fun e3 => ?_) fun e3 => if_no rfl (hN _ ⟨e, rfl⟩)
    refine if_both (fun e4 => ⟨le_szL rfl, one ?_⟩) fun e4 => hN _ ⟨e, rfl⟩
    have e2 : (!decide (p = "head")) = true := e2
    rw [Bool.not_eq_true'] at e2
    exact of_decide_eq_false e2
  rintro δ ⟨n4, rfl⟩
  have h0 : 0 < deep := by omega
  have m : ¬ kd < 5 := by omega
  have hdn : (deep - 1).toNat < n := by omega
  have hd4 : deep - 1 ≤ 4 := by omega
  refine seq_N (fun δ => ¬ kd < 9 ∧ δ = [.bag, .dt (.str p), .dt (.int deep), .cnt, .dt (.int kd), .no, .no, .no, .no, .no, .no]) ?_ ?_
  · intro N hN
    refine if_both (fun e => ?_) fun e => hN _ ⟨of_decide_eq_false e, rfl⟩
    have e := of_decide_eq_true e
    refine ⟨by decide, by decide, fun j j0 j1 => ⟨by omega, by omega, ?_, ?_⟩⟩
    · rw [zs_len]; have := sizeLine_eq; omega
    refine comp_draw (P := fun y => ∃ f, y = Fm.d f ∧ Gf p ((deep - 1).toNat) f) (fun d C hC => ⟨p, deep - 1, rfl, hp, hdn, hd4, fun f hf => ⟨rfl, hC _ ⟨f, rfl, hf⟩⟩⟩) mono_gdName _ _ _ fun ys hl hys => ?_
    rw [zs_len] at hl
    obtain ⟨fs, rfl, hfs, hfl⟩ := of_drawn hys
    refine ⟨le_szL rfl, ?_⟩
    obtain ⟨x, hx, hm⟩ := pick (xs := [.str "sum", .str "sum", .str "most", .str "least"]) (d := kd - 5) (by omega) (by show kd - 5 < 4; omega)
    refine ⟨x, hx, ?_⟩
    have z : ∀ v : W3, Q (.dt (.tup [.str v.s, .tup (fdA fs)])) := fun v => by
      have z := nd (g := .mn v) (xs := fs) h0 hfs (by omega) trivial trivial
      rw [Fm.d] at z
      exact z
    simp only [List.mem_cons, List.not_mem_nil, or_false] at hm
    rcases hm with rfl | rfl | rfl | rfl
    · exact ⟨le_szL rfl, z .sum⟩
    · exact ⟨le_szL rfl, z .sum⟩
    · exact ⟨le_szL rfl, z .most⟩
    · exact ⟨le_szL rfl, z .least⟩
  rintro δ ⟨n5, rfl⟩
  refine seq_N (fun δ => ¬ kd < 11 ∧ δ = [.bag, .dt (.str p), .dt (.int deep), .cnt, .dt (.int kd), .no, .no, .no, .no, .no, .no]) ?_ ?_
  · intro N hN
    refine if_both (fun e => ?_) fun e => hN _ ⟨of_decide_eq_false e, rfl⟩
    refine fun x hx => ⟨p, deep - 1, rfl, hp, hdn, hd4, fun f hf => ⟨le_szL rfl, ?_⟩⟩
    obtain ⟨i, rfl, hi⟩ := num_int hx
    have z := nd (g := .tm i) (xs := [f]) h0 (fun y hy => by rw [List.mem_singleton.mp hy]; exact hf) (Nat.le_of_ble_eq_true rfl) ⟨f, rfl⟩ hi
    rw [Fm.d] at z
    exact z
  rintro δ ⟨n6, rfl⟩
  refine ⟨p, deep - 1, rfl, hp, hdn, hd4, fun a ha => ⟨p, deep - 1, rfl, hp, hdn, hd4, fun b hb => ?_⟩⟩
  dsimp only
  refine seq_N (δ := [.bag, .dt (.str p), .dt (.int deep), .cnt, .dt (.int kd), .no, .no, .dt a.d, .dt b.d, .no, .no]) (fun δ => δ = [.bag, .dt (.str p), .dt (.int deep), .cnt, .dt (.int kd), .no, .no, .dt a.d, .dt b.d, .no, .no]) ?_ ?_
  · intro N hN
    refine ⟨rfl, rfl, ?_⟩
    refine if_both (fun e => ⟨le_szL rfl, ?_⟩) fun e => hN _ rfl
    have z := nd (g := .ov) (xs := [a, b]) h0 (fun y hy => by
      simp only [List.mem_cons, List.not_mem_nil, or_false] at hy
      rcases hy with rfl | rfl <;> assumption) (Nat.le_of_ble_eq_true rfl) ⟨a, b, rfl⟩ trivial
    rw [Fm.d] at z
    exact z
  rintro δ rfl
  refine ⟨p, deep - 1, rfl, hp, hdn, hd4, fun c hc => ⟨p, deep - 1, rfl, hp, hdn, hd4, fun d hd => ?_⟩⟩
  refine ⟨le_szL rfl, by decide, by decide, fun i x hi => ⟨le_szL rfl, ?_⟩⟩
  have z : ∀ v : SG, Q (.dt (.tup [.str "case", a.d, .str v.s, b.d, c.d, d.d])) := fun v => by
    have z := nd (g := .cs v) (xs := [a, b, c, d]) h0 (fun y hy => by
      simp only [List.mem_cons, List.not_mem_nil, or_false] at hy
      rcases hy with rfl | rfl | rfl | rfl <;> assumption) (Nat.le_of_ble_eq_true rfl) ⟨a, b, c, d, rfl⟩ trivial
    rw [Fm.d] at z
    exact z
  have hm := List.mem_of_getElem? hi
  simp only [List.mem_cons, List.not_mem_nil, or_false] at hm
  rcases hm with rfl | rfl | rfl | rfl | rfl | rfl
  · exact z .eq
  · exact z .ne
  · exact z .lt
  · exact z .le
  · exact z .gt
  · exact z .ge
theorem ok_formula (T : Tx K mg) (D0 : Dfn K mg "_law_formula" s__law_formula ["_law_bag_here", "_law_place", "_law_deep", "_law_left"]) (c__law_take : CTake P w K mg base := by assumption) (c__law_one : COne P w K mg base := by assumption) (c__law_number : C__law_number P w K mg base := by assumption) (c__law_name : C__law_name P w K mg base := by assumption) (c__law_range : C__law_range P w K mg base := by assumption) : ∀ n, C__law_formula n P w K mg base
  | 0 => fnx_no D0 (fun rs Q ⟨_, _, _, _, h, _⟩ => absurd h (Nat.not_lt_zero _)) _
  | n + 1 => ok_formula1 n T c__law_take c__law_one c__law_number c__law_name c__law_range (ok_formula T D0 c__law_take c__law_one c__law_number c__law_name c__law_range n) D0
def WholeP (p : Str) (x : D) : Prop := ∃ f : Fm, x = f.d ∧ WholeF p f
abbrev C__law_whole_formula (P : Program) (w : World) (K : PySem.W.Frag) (mg : Str → Option Value) (base : Heap) : Prop := FnX P w K mg base 10 "_law_whole_formula" 2 (tDr2 WholeP)
theorem ok_whole (T : Tx K mg) (D0 : Dfn K mg "_law_whole_formula" s__law_whole_formula ["_law_bag_here", "_law_place"]) (c__law_formula : C__law_formula 5 P w K mg base) (c__law_take : CTake P w K mg base := by assumption) (c__law_one : COne P w K mg base := by assumption) (c__law_name : C__law_name P w K mg base := by assumption) : C__law_whole_formula P w K mg base := by
  have nc__law_formula := @nc_form 5
  refine FnX.of (k := 9) D0 sc__law_whole_formula rfl mono_tDr2 len_tDr2 fun f cdv A outer s H E hr => ⟨_, (pds_cons (pds_set (i := 2) sc__law_whole_formula.nd rfl (Or.inl rfl) (pd_fn c__law_take (hr.mono (by omega)) (by rfl) (pda_cons (pd_var (pv 0)) (pda_cons (pd_c pe_int fun _ => .int _) pda_nil))))
      (pds_cons (pds_if (PDW.t (pdw_and (pdt_ne hr.units (pd_var (pv 1)) (pd_c pe_str fun _ => .str _)) (pdw_and1 (pdt_lt (pd_var (pv 2)) (pd_c pe_int fun _ => .int _))))) (pds_one (pds_ret (pd_tup (pda_cons (pd_c pe_str fun _ => .str _) pda_nil)))) pds_nil)
      (pds_cons (pds_if (pdt_eq hr.units (pd_var (pv 2)) (pd_c pe_int fun _ => .int _)) (pds_one (pds_ret (pd_tup (pda_cons (pd_fn c__law_one (hr.mono (by omega)) (by rfl) (pda_cons (pd_var (pv 0)) (pda_cons (pd_lst (pda_cons (pd_c pe_str fun _ => .str _) (pda_cons (pd_c pe_str fun _ => .str _) (pda_cons (pd_c pe_str fun _ => .str _) (pda_cons (pd_c pe_str fun _ => .str _) pda_nil))))) pda_nil))) (pda_cons (pd_tuple (by rfl) T.b_tuple (pda_cons (pd_frz [0, 1] (pd_lc rfl sc__law_whole_formula.nd (pdi_rng1 (by rfl) T.b_range (pda_cons (pd_c pe_int fun _ => .int _) pda_nil)) (blkOk_by (own := [("_law_k", 3)]) (N := ["_law_bag_here", "_law_place", "_law_kind", "_law_k"]) (sc := defScope s__law_whole_formula) (by decide +kernel)) rfl (fun _ _ _ _ _ => (pdg_name (pg_name (i := 3) sc__law_whole_formula.nd rfl (Or.inl rfl)))) (fun _ _ _ _ _ => pdts_nil) (fun _ _ _ _ _ => (pd_fn c__law_name (hr.mono (by omega)) (by rfl) (pda_cons (pd_var (pv 0)) (pda_cons (pd_var (pv 1)) pda_nil)))))) pda_nil)) pda_nil))))) pds_nil)
      (pds_one (pds_ret (pd_fnC c__law_formula nc__law_formula (hr.mono (by omega)) (by rfl) (pdcn_cons (pd_var (pv 0)) (pdcn_cons (pd_var (pv 1)) (pdcn_cons (pd_fn c__law_take (hr.mono (by omega)) (by rfl) (pda_cons (pd_var (pv 0)) (pda_cons (pd_c pe_int fun _ => .int _) pda_nil))) (pdcn_last (pd_fn c__law_take (hr.mono (by omega)) (by rfl) (pda_cons (pd_var (pv 0)) (pda_cons (pd_c pe_int fun _ => .int _) pda_nil))))))))))))), fun rs Q h => ?_⟩
  obtain ⟨p, rfl, hp, q⟩ := h
  dsimp only [startD, List.cons_append, List.nil_append]
  refine ⟨by decide, by decide, fun kd k0 k1 => ?_⟩
  dsimp only
  refine seq_N (fun δ => δ = [.bag, .dt (.str p), .dt (.int kd), .no]) ?_ ?_
  · intro N hN
    refine if_both (fun e => ?_) fun e => if_no rfl (hN _ rfl)
    have e : (!decide (p = "foot")) = true := e
    rw [Bool.not_eq_true'] at e
    refine if_both (fun e2 => ⟨le_szL rfl, q _ ⟨.inp, by rw [Fm.d], .inl ⟨rfl, of_decide_eq_false e⟩⟩⟩) fun e2 => hN _ rfl
  rintro δ rfl
  refine seq_N (fun δ => δ = [.bag, .dt (.str p), .dt (.int kd), .no]) ?_ ?_
  · intro N hN
    refine ⟨rfl, rfl, ?_⟩
    refine if_both (fun e => ?_) fun e => hN _ rfl
    refine ⟨le_szL rfl, by decide, by decide, fun i x hi => ⟨by decide, by decide, by decide, ?_⟩⟩
    refine comp_draw (P := NmP p) (fun d C hC => ⟨p, rfl, hp, fun y hy => ⟨rfl, hC y hy⟩⟩) mono_gdName _ _ _ fun ys hl hys => ?_
    obtain ⟨fs, rfl, hfs, hfl⟩ := of_drawn (G := fun f => Gf p 0 f) (ys := ys) fun y hy => by
      obtain ⟨c, r, rfl, h⟩ := hys y hy
      exact ⟨.nm c r, by rw [Fm.d]; rfl, gf_nm h⟩
    have hl6 : fs.length = 6 := hfl.trans hl
    have z : ∀ v : W3, Q (.dt (.tup [.str v.s, .tup (fdA fs)])) := fun v => by
      have z := q (Fm.node (.mn v) fs).d ⟨_, rfl, .inr ((gf_node (g := .mn v) hfs (by omega) trivial trivial).mono (by decide))⟩
      rw [Fm.d] at z
      exact z
    have hm := List.mem_of_getElem? hi
    simp only [List.mem_cons, List.not_mem_nil, or_false] at hm
    rcases hm with rfl | rfl | rfl | rfl
    · exact ⟨le_szL rfl, z .sum⟩
    · exact ⟨le_szL rfl, z .sum⟩
    · exact ⟨le_szL rfl, z .most⟩
    · exact ⟨le_szL rfl, z .least⟩
  rintro δ rfl
  refine ⟨by decide, by decide, fun dp d0 d1 => ⟨by decide, by decide, fun lf l0 l1 => ?_⟩⟩
  exact ⟨p, dp, rfl, hp, by omega, by omega, fun f hf => q _ ⟨f, rfl, .inr (hf.mono (by omega))⟩⟩
end
end K20
set_option Elab.async false
set_option linter.all false
set_option maxRecDepth 100000
set_option maxHeartbeats 4000000
namespace K20
open PySem PySem.Spec PyProof.Rows L2 DL
section
variable {P : Program} {w : World} {K : PySem.W.Frag} {mg : Str → Option Value} {base : Heap}
abbrev C__law_is_whole (P : Program) (w : World) (K : PySem.W.Frag) (mg : Str → Option Value) (base : Heap) : Prop := PF P w K mg base 1 "_law_is_whole" (fun d => .dt (.bl (isInt d)))
theorem ok_lwhole (T : Tx K mg) (D0 : Dfn K mg "_law_is_whole" s__law_is_whole ["_law_thing"]) : C__law_is_whole P w K mg base := by
  refine FnX.of D0 sc__law_is_whole rfl mono_tf1 len_tf1 fun f cdv A outer s H E hr => ⟨_, (pds_one (pds_ret (pd_and (pd_isi .int (by rfl) T.b_isinstance (by rfl) T.b_int boot_intT (pd_var (pv 0))) (pd_one (pd_not (pd_isi .bool (by rfl) T.b_isinstance (by rfl) T.b_bool boot_boolT (pd_var (pv 0)))))))), fun rs Q h => ?_⟩
  obtain ⟨d, rfl, hd, q⟩ := tf1_in h
  have hd := plain_ins hd
  refine ⟨hd, ?_⟩
  cases d <;> first | exact q | exact ⟨hd, q⟩
end
end K20
set_option Elab.async false
set_option linter.all false
set_option maxRecDepth 100000
set_option maxHeartbeats 4000000
namespace K20
open PySem PySem.Spec PyProof.Rows L2 DL
structure WF (p : Str) (f : Fm) : Prop where
  sm : f.Sm 5
  ok : f.ok
  rds : ∀ x ∈ f.rds, x.ok
  fits : f.fits p = true
structure _root_.DL.Col.Fine (c : Col) : Prop where
  h : WF "head" c.h
  b : WF "body" c.b
  f : WF "foot" c.f
theorem _root_.DL.WholeF.wf {p : Str} {f : Fm} (hp : IsPl p) (h : WholeF p f) : WF p f := ⟨h.sm, h.ok, fun x hx => (h.rds x hx).ok, h.fits hp⟩
theorem _root_.DL.Col.Good.fine {c : Col} (g : c.Good) : c.Fine := ⟨g.h.wf .head, g.b.wf .body, g.f.wf .foot⟩
section
variable {P : Program} {w : World} {K : PySem.W.Frag} {mg : Str → Option Value} {base : Heap}
def rowP (p : Bool × Col) : D := match p.1 with
  | true => .lst [p.2.h.d, p.2.b.d, p.2.f.d]
  | false => p.2.d
def seqP (t : Bool) (ds : List D) : D := match t with
  | true => .tup ds
  | false => .lst ds
def tRow : TF := fun rs Q => ∃ c : Bool × Col, rs = [.dt (rowP c)] ∧ c.2.Fine ∧ Q (.dt (.bl true))
abbrev C_is_row_of_formulas (P : Program) (w : World) (K : PySem.W.Frag) (mg : Str → Option Value) (base : Heap) : Prop := FnX P w K mg base 21 "is_row_of_formulas" 1 tRow
theorem ok_is_row (T : Tx K mg) (D0 : Dfn K mg "is_row_of_formulas" s_is_row_of_formulas ["thing"]) (c_is_formula : C_is_formula 5 P w K mg base) : C_is_row_of_formulas P w K mg base := by
  refine FnX.of (k := 20) D0 sc_is_row_of_formulas rfl (fun rs Q Q' ⟨c, a, b, q⟩ w => ⟨c, a, b, w _ q⟩) (fun rs Q ⟨c, a, _⟩ => by rw [a]; rfl) fun f cdv A outer s H E hr => ⟨_, (pds_one (pds_ret (pd_and (pd_isi2 .list .tuple (by rfl) T.b_isinstance (by rfl) T.b_list boot_listT (by rfl) T.b_tuple boot_tupleT (pd_var (pv 0))) (pd_and (pd_eq hr.units (pd_lenV (by rfl) T.b_len (pdv_var (pv 0))) (pd_c pe_int fun _ => .int _)) (pd_one (pd_all rfl (by rfl) T.b_all (pda_cons (pd_lc rfl sc_is_row_of_formulas.nd (pdi_over (pd_var (pv 0))) (blkOk_by (own := [("one", 1)]) (N := ["thing", "one"]) (sc := defScope s_is_row_of_formulas) (by decide +kernel)) rfl (fun _ _ _ _ _ => (pdg_name (pg_name (i := 1) sc_is_row_of_formulas.nd rfl (Or.inl rfl)))) (fun _ _ _ _ _ => pdts_nil) (fun _ _ _ _ _ => (pd_fn c_is_formula (hr.mono (by omega)) (by rfl) (pda_cons (pd_var (pv 1)) pda_nil)))) pda_nil))))))), fun rs Q h => ?_⟩
  obtain ⟨⟨b, c⟩, rfl, g, q⟩ := h
  have key : ∀ x ∈ [c.h, c.b, c.f], x.Sm 5 ∧ x.ok := by
    intro x hx
    simp only [List.mem_cons, List.not_mem_nil, or_false] at hx
    rcases hx with rfl | rfl | rfl
    · exact ⟨g.h.sm, g.h.ok⟩
    · exact ⟨g.b.sm, g.b.ok⟩
    · exact ⟨g.f.sm, g.f.ok⟩
  cases b
  all_goals
    refine ⟨rfl, ?_⟩
    refine if_yes rfl ?_
    refine ⟨rfl, rfl, ?_⟩
    refine if_yes rfl ?_
    refine ⟨le_szL rfl, ?_⟩
    refine comp_map Fm.d (fun _ => .bl true) [c.h, c.b, c.f] _ _ (fun x hx C hC => ⟨x, rfl, key x hx, hC _ rfl⟩) ?_
    exact q
end
end K20
set_option Elab.async false
set_option linter.all false
set_option maxRecDepth 100000
set_option maxHeartbeats 4000000
namespace K20
open PySem PySem.Spec PyProof.Rows L2 DL
section
variable {P : Program} {w : World} {K : PySem.W.Frag} {mg : Str → Option Value} {base : Heap}
def tSh : TF := fun rs Q => ∃ m : Int, rs = [.bag, .dt (.int m)] ∧ 0 ≤ m ∧ m ≤ 20 ∧ ∀ cs : List Col, cs.length ≤ m.toNat → (∀ c ∈ cs, c.Good) → Q (.dt (.lst (cs.map Col.d)))
abbrev C__law_sheet (P : Program) (w : World) (K : PySem.W.Frag) (mg : Str → Option Value) (base : Heap) : Prop := FnX P w K mg base 11 "_law_sheet" 2 tSh
theorem flow_good {c r : D} (h : RdP "body" (.nm c r)) : Col.Good ⟨.inp, .node (.mn .sum) [.nm (.tup [.str "by", .int 0]) (.tup [.str "by", .int (-1)]), .nm c r], .nm (.tup [.str "by", .int 0]) (.tup [.str "last", .int 0])⟩ := by
  refine ⟨.inl ⟨rfl, by decide⟩, .inr (Gf.mono (m := 1) (gf_node (n := 0) (fun x hx => ?_) (Nat.le_of_ble_eq_true rfl) trivial trivial) (by decide)), .inr ((gf_nm (rdp_nm (partP_by (by decide)) (rowP_last (by decide) (by decide)))).mono (by decide))⟩
  simp only [List.mem_cons, List.not_mem_nil, or_false] at hx
  rcases hx with rfl | rfl
  · exact gf_nm (rdp_nm (partP_by (by decide)) (rowP_by (by decide)))
  · exact gf_nm h
theorem ok_sheet (T : Tx K mg) (D0 : Dfn K mg "_law_sheet" s__law_sheet ["_law_bag_here", "_law_most"]) (c__law_take : CTake P w K mg base := by assumption) (c__law_name : C__law_name P w K mg base := by assumption) (c__law_whole_formula : C__law_whole_formula P w K mg base := by assumption) : C__law_sheet P w K mg base := by
  refine FnX.of (k := 10) D0 sc__law_sheet rfl (fun rs Q Q' ⟨a, b, c, d, q⟩ w => ⟨a, b, c, d, fun L h1 h2 => w _ (q L h1 h2)⟩) (fun rs Q ⟨a, b, _⟩ => by rw [b]; rfl) fun f cdv A outer s H E hr => ⟨_, (pds_cons (pds_set (i := 2) sc__law_sheet.nd rfl (Or.inl rfl) (pd_lst pda_nil))
      (pds_cons (pds_for PassesOwn.never rfl (pdi_rng1 (by rfl) T.b_range (pda_cons (pd_fn c__law_take (hr.mono (by omega)) (by rfl) (pda_cons (pd_var (pv 0)) (pda_cons (pd_addV (pdv_var (pv 1)) (pdv_of (pd_c pe_int fun _ => .int _))) pda_nil))) pda_nil)) (pdg_name (pg_name (i := 3) sc__law_sheet.nd rfl (Or.inl rfl))) (pds_one (pds_if (pdt_eq hr.units (pd_fn c__law_take (hr.mono (by omega)) (by rfl) (pda_cons (pd_var (pv 0)) (pda_cons (pd_c pe_int fun _ => .int _) pda_nil))) (pd_c pe_int fun _ => .int _)) (pds_cons (pds_set (i := 4) sc__law_sheet.nd rfl (Or.inl rfl) (pd_tup (pda_cons (pd_c pe_str fun _ => .str _) (pda_cons (pd_tup (pda_cons (pd_c pe_str fun _ => .str _) (pda_cons (pd_c pe_int fun _ => .int _) pda_nil))) (pda_cons (pd_tup (pda_cons (pd_c pe_str fun _ => .str _) (pda_cons (pd_neg (pd_c pe_int fun _ => .int _)) pda_nil))) pda_nil)))))
      (pds_one (pds_app (pv 2) (pd_tup (pda_cons (pd_tup (pda_cons (pd_c pe_str fun _ => .str _) pda_nil)) (pda_cons (pd_tup (pda_cons (pd_c pe_str fun _ => .str _) (pda_cons (pd_tup (pda_cons (pd_var (pv 4)) (pda_cons (pd_fn c__law_name (hr.mono (by omega)) (by rfl) (pda_cons (pd_var (pv 0)) (pda_cons (pd_c pe_str fun _ => .str _) pda_nil))) pda_nil))) pda_nil))) (pda_cons (pd_tup (pda_cons (pd_c pe_str fun _ => .str _) (pda_cons (pd_tup (pda_cons (pd_c pe_str fun _ => .str _) (pda_cons (pd_c pe_int fun _ => .int _) pda_nil))) (pda_cons (pd_tup (pda_cons (pd_c pe_str fun _ => .str _) (pda_cons (pd_c pe_int fun _ => .int _) pda_nil))) pda_nil)))) pda_nil))))))) (pds_one (pds_app (pv 2) (pd_tuple (by rfl) T.b_tuple (pda_cons (pd_frz [0] (pd_lc rfl sc__law_sheet.nd (pdi_over (pd_tup (pda_cons (pd_c pe_str fun _ => .str _) (pda_cons (pd_c pe_str fun _ => .str _) (pda_cons (pd_c pe_str fun _ => .str _) pda_nil))))) (blkOk_by (own := [("_law_place", 5)]) (N := ["_law_bag_here", "_law_most", "_law_found", "_law_k", "_law_above", "_law_place"]) (sc := defScope s__law_sheet) (by decide +kernel)) rfl (fun _ _ _ _ _ => (pdg_name (pg_name (i := 5) sc__law_sheet.nd rfl (Or.inl rfl)))) (fun _ _ _ _ _ => pdts_nil) (fun _ _ _ _ _ => (pd_fn c__law_whole_formula (hr.mono (by omega)) (by rfl) (pda_cons (pd_var (pv 0)) (pda_cons (pd_var (pv 5)) pda_nil)))))) pda_nil)))))))
      (pds_one (pds_ret (pd_var (pv 2)))))), fun rs Q h => ?_⟩
  obtain ⟨m, rfl, m0, m1, q⟩ := h
  have z1 := sizeLine_eq
  refine ⟨Nat.zero_le _, by omega, by omega, fun t t0 t1 => ⟨by omega, by omega, ?_⟩⟩
  refine forD_L (fun ds δ => ∃ (cs : List Col) (s3 s4 s5 : Sl), cs.length + ds.length ≤ m.toNat ∧ (∀ c ∈ cs, c.Good) ∧ δ = [.bag, .dt (.int m), .ol (cs.map Col.d), s3, s4, s5]) ?_ ?_ _ _ ⟨[], _, _, _, by rw [zs_len]; simp only [List.length_nil]; omega, fun c h => (List.not_mem_nil h).elim, rfl⟩
  · rintro d ds δ N ⟨cs, s3, s4, s5, e1, e2, rfl⟩ hN
    rw [List.length_cons] at e1
    have lt : (cs.map Col.d).length < sizeLine := by rw [List.length_map]; omega
    have put : ∀ (c : Col) (s4 s5 : Sl), c.Good → N [.bag, .dt (.int m), .ol (cs.map Col.d ++ [c.d]), .dt d, s4, s5] := fun c s4 s5 hc => by
      refine hN _ ⟨cs ++ [c], .dt d, s4, s5, by rw [List.length_append, List.length_singleton]; omega, fun x hx => ?_, by rw [List.map_append]; rfl⟩
      rcases List.mem_append.mp hx with hx | hx
      · exact e2 x hx
      · rw [List.mem_singleton.mp hx]; exact hc
    refine ⟨by decide, by decide, fun k k0 k1 => ⟨rfl, rfl, ?_⟩⟩
    refine if_both (fun e => ?_) fun e => ?_
    · (repeat (first | refine ⟨_, atI_zero, ?_⟩ | refine ⟨_, atI_of (j := 1) rfl rfl, ?_⟩ | refine ⟨_, atI_of (j := 2) rfl rfl, ?_⟩ | refine ⟨_, atI_of (j := 3) rfl rfl, ?_⟩ | refine ⟨_, atI_of (j := 4) rfl rfl, ?_⟩ | refine ⟨_, atI_of (j := 5) rfl rfl, ?_⟩ | refine ⟨le_szL rfl, ?_⟩ | refine ⟨rfl, rfl, ?_⟩))
      refine ⟨"body", rfl, .body, fun y hy => ?_⟩
      obtain ⟨c, r, rfl, hy2⟩ := hy
      (repeat (first | refine ⟨_, atI_zero, ?_⟩ | refine ⟨_, atI_of (j := 1) rfl rfl, ?_⟩ | refine ⟨_, atI_of (j := 2) rfl rfl, ?_⟩ | refine ⟨_, atI_of (j := 3) rfl rfl, ?_⟩ | refine ⟨_, atI_of (j := 4) rfl rfl, ?_⟩ | refine ⟨_, atI_of (j := 5) rfl rfl, ?_⟩ | refine ⟨le_szL rfl, ?_⟩ | refine ⟨rfl, rfl, ?_⟩))
      refine ⟨lt, ?_⟩
      have z := put _ (.dt (.tup [.str "name", .tup [.str "by", .int 0], .tup [.str "by", .int (-1)]])) s5 (flow_good hy2)
      simp only [Col.d, Fm.d, hdD, fdA] at z
      exact z
    · refine ⟨le_szL rfl, le_szL rfl, ?_⟩
      refine ⟨rfl, ?_⟩
      refine ⟨"head", rfl, .head, fun x hx => ⟨rfl, ?_⟩⟩
      refine ⟨rfl, ?_⟩
      refine ⟨"body", rfl, .body, fun y hy => ⟨rfl, ?_⟩⟩
      refine ⟨rfl, ?_⟩
      refine ⟨"foot", rfl, .foot, fun z hz => ⟨rfl, ?_⟩⟩
      obtain ⟨f1, rfl, h1⟩ := hx
      obtain ⟨f2, rfl, h2⟩ := hy
      obtain ⟨f3, rfl, h3⟩ := hz
      exact ⟨lt, put ⟨f1, f2, f3⟩ _ _ ⟨h1, h2, h3⟩⟩
  · rintro δ ⟨cs, s3, s4, s5, e1, e2, rfl⟩
    exact q cs (by simpa using e1) e2
end
end K20
set_option Elab.async false
set_option linter.all false
set_option maxRecDepth 100000
set_option maxHeartbeats 4000000
namespace K20
open PySem PySem.Spec PyProof.Rows L2 DL
def nestD : Nat → D
  | 0 => .lst []
  | n + 1 => .lst [nestD n]
structure Nd (c h t : Nat) (d : D) : Prop where
  plain : plainD d = true
  small : smallD d
  cost : costD d ≤ c
  dep : (py d).depth ≤ h
  ht : hT d ≤ t
theorem Nd.mono {c h t c' h' t' : Nat} {d : D} (n : Nd c h t d) (a : c ≤ c') (b : h ≤ h') (e : t ≤ t') : Nd c' h' t' d := ⟨n.plain, n.small, Nat.le_trans n.cost a, Nat.le_trans n.dep b, Nat.le_trans n.ht e⟩
def ndB (c h t : Nat) (d : D) : Bool := plainD d && (smallB d && (decide (costD d ≤ c) && (decide ((py d).depth ≤ h) && decide (hT d ≤ t))))
theorem ndB_ok {c h t : Nat} {d : D} (e : ndB c h t d = true) : Nd c h t d := by
  unfold ndB at e
  simp only [Bool.and_eq_true, decide_eq_true_eq] at e
  exact ⟨e.1, smallB_ok d e.2.1, e.2.2.1, e.2.2.2.1, e.2.2.2.2⟩
theorem smallA_of : ∀ {xs : List D}, (∀ x ∈ xs, smallD x) → smallA xs
  | [], _ => trivial
  | x :: xs, h => ⟨h x List.mem_cons_self, smallA_of fun y hy => h y (List.mem_cons_of_mem _ hy)⟩
theorem smallA_mem : ∀ {xs : List D} {x : D}, smallA xs → x ∈ xs → smallD x
  | y :: ys, x, h, hm => by
    rcases List.mem_cons.mp hm with rfl | hm
    · exact h.1
    · exact smallA_mem h.2 hm
theorem depA_le : ∀ {xs : List D} {n : Nat}, (∀ x ∈ xs, (py x).depth ≤ n) → PyData.depthAll (pyA xs) ≤ n
  | [], _, _ => Nat.zero_le _
  | x :: xs, n, h => Nat.max_le.mpr ⟨h x List.mem_cons_self, depA_le fun y hy => h y (List.mem_cons_of_mem _ hy)⟩
theorem depA_mem : ∀ {xs : List D} {x : D}, x ∈ xs → (py x).depth ≤ PyData.depthAll (pyA xs)
  | y :: ys, x, h => by
    rcases List.mem_cons.mp h with rfl | h
    · exact Nat.le_max_left _ _
    · exact Nat.le_trans (depA_mem h) (Nat.le_max_right _ _)
theorem strOk_rep {z : Str} {k : Nat} (h : PyData.strOk z = true) : PyData.strOk (repS z k) = true := by
  unfold PyData.strOk at h ⊢
  unfold repS
  rw [List.all_toArray, List.all_eq_true]
  intro x hx
  rw [← Array.toArray_toList (xs := z.cps), List.all_toArray, List.all_eq_true] at h
  obtain ⟨l, hl, hx⟩ := List.mem_flatten.mp hx
  rw [List.eq_of_mem_replicate hl] at hx
  exact h x hx
theorem nd_rep {z : Str} {k c h t : Nat} (hz : PyData.strOk z = true) (hc : decide (costD (.str (repS z k)) ≤ c) = true) : Nd c h t (.str (repS z k)) :=
  ⟨rfl, strOk_rep hz, of_decide_eq_true hc, Nat.zero_le _, by rw [hT]; exact Nat.zero_le _⟩
structure NdA (c h t : Nat) (xs : List D) : Prop where
  each : ∀ x ∈ xs, plainD x = true ∧ smallD x ∧ (py x).depth ≤ h ∧ hT x ≤ t
  cost : costA xs ≤ c
theorem NdA.tup {c h t : Nat} {xs : List D} (n : NdA c h t xs) : Nd (c + 3) (h + 1) (t + 1) (.tup xs) :=
  ⟨plainA_of fun x hx => (n.each x hx).1, smallA_of fun x hx => (n.each x hx).2.1, Nat.add_le_add_right n.cost 3, Nat.succ_le_succ (depA_le fun x hx => (n.each x hx).2.2.1), by rw [hT]; exact Nat.succ_le_succ (hTA_le fun x hx => (n.each x hx).2.2.2)⟩
theorem NdA.lst {c h t : Nat} {xs : List D} (n : NdA c h t xs) : Nd (c + 3) (h + 1) 0 (.lst xs) :=
  ⟨plainA_of fun x hx => (n.each x hx).1, smallA_of fun x hx => (n.each x hx).2.1, Nat.add_le_add_right n.cost 3, Nat.succ_le_succ (depA_le fun x hx => (n.each x hx).2.2.1), by rw [hT]; exact Nat.le_refl _⟩
theorem Nd.items {c h t : Nat} {xs : List D} (n : Nd c h t (.tup xs)) : NdA c h t xs := by
  have h1 : costA xs + 3 ≤ c := n.cost
  have h2 : PyData.depthAll (pyA xs) + 1 ≤ h := n.dep
  have h3 := n.ht
  rw [hT] at h3
  exact ⟨fun x hx => ⟨plainA_mem (show plainA xs = true from n.plain) hx, smallA_mem (show smallA xs from n.small) hx, by have := depA_mem hx; omega, by have := hTA_mem hx; omega⟩, by omega⟩
theorem Nd.show {c h t : Nat} {d : D} (n : Nd c h t d) (a : c ≤ sizeLine) (b : h ≤ 100) : ShowM d := showM_of n.plain n.small (Nat.le_trans n.cost a) (Nat.le_trans n.dep b)
section
variable {P : Program} {w : World} {K : PySem.W.Frag} {mg : Str → Option Value} {base : Heap}
abbrev CNest (P : Program) (w : World) (K : PySem.W.Frag) (mg : Str → Option Value) (base : Heap) : Prop := FnX P w K mg base 1 "_law_nested" 1 (tf1 (fun d => match d with | .int n => 0 ≤ n ∧ n ≤ 100 | _ => False) fun d => match d with | .int n => .dt (nestD n.toNat) | _ => .no)
theorem ok_nested (T : Tx K mg) (D0 : Dfn K mg "_law_nested" s__law_nested ["_law_many"]) : CNest P w K mg base := by
  refine FnX.of D0 sc__law_nested rfl mono_tf1 len_tf1 fun f cdv A outer s H E hr => ⟨_, (pds_cons (pds_set (i := 1) sc__law_nested.nd rfl (Or.inl rfl) (pd_lst pda_nil))
      (pds_cons (pds_for PassesOwn.never rfl (pdi_rng1 (by rfl) T.b_range (pda_cons (pd_var (pv 0)) pda_nil)) (pdg_name (pg_name (i := 2) sc__law_nested.nd rfl (Or.inl rfl))) (pds_one (pds_set (i := 1) sc__law_nested.nd rfl (Or.inl rfl) (pd_lst (pda_cons (pd_var (pv 1)) pda_nil)))))
      (pds_one (pds_ret (pd_var (pv 1)))))), fun rs Q h => ?_⟩
  obtain ⟨d, rfl, hd, q⟩ := tf1_in h
  cases d <;> first | exact hd.elim | skip
  rename_i n
  refine ⟨Nat.zero_le _, by omega, by omega, ?_⟩
  have loop : ∀ (ds : List D) (k : Nat) (xs : List D) (s2 : Sl) (D : EndsD), nestD k = .lst xs → D.nx = (fun δ => tdRet (tdVar 1) { nx := fun _ => Q (.dt .non), rt := fun r _ => Q r } δ) → Q (.dt (nestD (k + ds.length))) →
      forD (gdName 2) (tdSet 1 (tdLst (tdCons (tdVar 1) tdNil))) D ds [.dt (.int n), .ol xs, s2] := by
    intro ds
    induction ds with
    | nil =>
      intro k xs s2 D hk hn hq
      show D.nx _
      rw [hn]
      show Q (.dt (.lst xs))
      rw [← hk]; exact hq
    | cons d ds ih =>
      intro k xs s2 D hk hn hq
      refine ⟨(by decide : (1 : Nat) ≤ sizeLine), ?_⟩
      refine ih (k + 1) [.lst xs] _ D (by show DL.D.lst [nestD k] = _; rw [hk]) hn ?_
      rw [show k + 1 + ds.length = k + (ds.length + 1) by omega]
      exact hq
  refine loop (zs 0 n.toNat) 0 [] .no _ rfl rfl ?_
  rw [zs_len, Nat.zero_add]
  exact q
end
end K20
set_option Elab.async false
set_option linter.all false
set_option maxRecDepth 100000
set_option maxHeartbeats 4000000
namespace K20
open PySem PySem.Spec PyProof.Rows L2 DL
structure It (d : D) : Prop where
  plain : plainD d = true
  small : smallD d
  cost : costD d ≤ 600000
  dep : (py d).depth ≤ 20
theorem seqOf_cases {d : D} {xs : List D} (h : seqOf d = some xs) : d = .lst xs ∨ d = .tup xs := by
  cases d <;> first | (cases h; done) | skip
  · cases h; exact .inl rfl
  · cases h; exact .inr rfl
theorem It.items {d : D} {xs : List D} (h : It d) (e : seqOf d = some xs) : ∀ x ∈ xs, It x := by
  intro x hx
  have hc := costA_mem hx
  have hd := depA_mem hx
  rcases seqOf_cases e with rfl | rfl
  · have c : costA xs + 3 ≤ 600000 := h.cost
    have dd : PyData.depthAll (pyA xs) + 1 ≤ 20 := h.dep
    exact ⟨plainA_mem (show plainA xs = true from h.plain) hx, smallA_mem (show smallA xs from h.small) hx, by omega, by omega⟩
  · have c : costA xs + 3 ≤ 600000 := h.cost
    have dd : PyData.depthAll (pyA xs) + 1 ≤ 20 := h.dep
    exact ⟨plainA_mem (show plainA xs = true from h.plain) hx, smallA_mem (show smallA xs from h.small) hx, by omega, by omega⟩
theorem It.len {d : D} {xs : List D} (h : It d) (e : seqOf d = some xs) : xs.length ≤ 300000 := by
  have hl := costA_len xs
  rcases seqOf_cases e with rfl | rfl
  · have c : costA xs + 3 ≤ 600000 := h.cost
    omega
  · have c : costA xs + 3 ≤ 600000 := h.cost
    omega
theorem It.of {c h t : Nat} {d : D} (n : Nd c h t d) (a : c ≤ 600000) (b : h ≤ 20) : It d := ⟨n.plain, n.small, Nat.le_trans n.cost a, Nat.le_trans n.dep b⟩
theorem cut_take {α : Type} {xs : List α} {a : Nat} : cutL xs none (some (a : Int)) = xs.take a := by
  unfold cutL
  rw [HT.sIx_nat, HT.sIx_none, Nat.sub_zero, List.drop_zero]
  by_cases h : a ≤ xs.length
  · rw [Nat.min_eq_left h]
  · rw [Nat.min_eq_right (by omega), List.take_length, List.take_of_length_le (by omega)]
theorem cut_drop {α : Type} {xs : List α} {a : Nat} : cutL xs (some (a : Int)) none = xs.drop a := by
  unfold cutL
  rw [HT.sIx_nat, HT.sIx_none]
  by_cases h : a ≤ xs.length
  · rw [Nat.min_eq_left h, List.take_of_length_le (by rw [List.length_drop]; exact Nat.le_refl _)]
  · rw [Nat.min_eq_right (by omega), List.drop_length, List.drop_of_length_le (by omega), List.take_nil]
theorem itB {d : D} (h : ndB 600000 20 20 d = true) : It d := It.of (ndB_ok h) (Nat.le_refl _) (Nat.le_refl _)
structure Ct (c h : Nat) (d : D) : Prop where
  plain : plainD d = true
  small : smallD d
  cost : costD d ≤ c
  dep : (py d).depth ≤ h
theorem ct_all {c h : Nat} : ∀ {xs : List D}, (∀ x ∈ xs, Ct c h x) → plainA xs = true ∧ smallA xs ∧ costA xs ≤ (c + 2) * xs.length ∧ PyData.depthAll (pyA xs) ≤ h
  | [], _ => ⟨rfl, trivial, Nat.zero_le _, Nat.zero_le _⟩
  | x :: xs, hx => by
    obtain ⟨a, b, d, e⟩ := ct_all fun y hy => hx y (List.mem_cons_of_mem _ hy)
    have h1 := hx x List.mem_cons_self
    refine ⟨?_, ⟨h1.small, b⟩, ?_, Nat.max_le.mpr ⟨h1.dep, e⟩⟩
    · show (plainD x && plainA xs) = true
      rw [h1.plain, a]; rfl
    · rw [costA, List.length_cons, Nat.mul_add]; have := h1.cost; omega
theorem ct_lst {c h : Nat} {xs : List D} (hx : ∀ x ∈ xs, Ct c h x) : Ct ((c + 2) * xs.length + 3) (h + 1) (.lst xs) := by
  obtain ⟨a, b, d, e⟩ := ct_all hx
  exact ⟨a, b, Nat.add_le_add_right d 3, Nat.succ_le_succ e⟩
theorem ct_tup {c h : Nat} {xs : List D} (hx : ∀ x ∈ xs, Ct c h x) : Ct ((c + 2) * xs.length + 3) (h + 1) (.tup xs) := by
  obtain ⟨a, b, d, e⟩ := ct_all hx
  exact ⟨a, b, Nat.add_le_add_right d 3, Nat.succ_le_succ e⟩
theorem Ct.mono {c h c' h' : Nat} {d : D} (b : Ct c h d) (h1 : c ≤ c') (h2 : h ≤ h') : Ct c' h' d := ⟨b.plain, b.small, Nat.le_trans b.cost h1, Nat.le_trans b.dep h2⟩
theorem It.ct {d : D} (h : It d) : Ct 600000 20 d := ⟨h.plain, h.small, h.cost, h.dep⟩
theorem whole_it {p : Str} {f : Fm} (h : WholeF p f) : It f.d := by
  have b := h.bs2
  have d : (py f.d).depth ≤ 20 := by
    rcases h with ⟨rfl, _⟩ | h
    · rw [Fm.d]; exact Nat.le_of_ble_eq_true rfl
    · exact Nat.le_trans h.bs.depth (by decide)
  exact ⟨b.plain, b.small, b.cost, d⟩
def isAt (d : D) (n : Nat) : Bool := match d with
  | .int a => decide (0 ≤ a) && decide (a < (n : Int))
  | _ => false
theorem part_nod {c : D} (h : isPart c = true) : nodK c = true := by
  rcases part_cases h with rfl | ⟨i, rfl⟩ | ⟨i, rfl, _⟩ <;> rfl
theorem row_nod {c : D} (h : isRow c = true) : nodK c = true := by
  rcases row_cases h with ⟨w, rfl, _⟩ | ⟨w, i, rfl, _⟩ <;> rfl
theorem lim_nod {c : D} (h : isLim c = true) : nodK c = true := by
  rcases lim_cases h with rfl | ⟨i, rfl⟩ <;> rfl
theorem nodKA_of : ∀ {xs : List D}, (∀ x ∈ xs, nodK x = true) → nodKA xs = true
  | [], _ => rfl
  | x :: xs, h => by
    rw [nodKA, h x List.mem_cons_self, nodKA_of fun y hy => h y (List.mem_cons_of_mem _ hy)]
    rfl
theorem hdD_nod {g : Hd} {ds : List D} (h : nodKA ds = true) : nodK (hdD g ds) = true := by
  cases g with
  | mn w => show (true && (nodKA ds && true)) = true; rw [h]; rfl
  | tm i => show (true && (true && nodKA ds)) = true; rw [h]; rfl
  | ov => show (true && nodKA ds) = true; rw [h]; rfl
  | cs s =>
    cases ds with
    | nil => rfl
    | cons d ds =>
      rw [nodKA, Bool.and_eq_true] at h
      show (true && (nodK d && (true && nodKA ds))) = true
      rw [h.1, h.2]; rfl
mutual
theorem ok_nod : ∀ f : Fm, f.ok → nodK f.d = true
  | .num i, _ => by rw [Fm.d]; rfl
  | .emp, _ => by rw [Fm.d]; rfl
  | .inp, _ => by rw [Fm.d]; rfl
  | .nm c r, h => by
    rw [Fm.ok] at h
    rw [Fm.d]
    show (true && (nodK c && (nodK r && true))) = true
    rw [part_nod h.1, row_nod h.2]; rfl
  | .rg w c a b, h => by
    rw [Fm.ok] at h
    rw [Fm.d]
    show (true && ((true && (nodK c && (nodK a && (nodK b && true)))) && true)) = true
    rw [part_nod h.1, lim_nod h.2.1, lim_nod h.2.2]; rfl
  | .node g xs, h => by rw [Fm.ok] at h; rw [Fm.d]; exact hdD_nod (okA_nod xs h.2)
theorem okA_nod : ∀ xs : List Fm, okA xs → nodKA (fdA xs) = true
  | [], _ => by rw [fdA]; rfl
  | x :: xs, h => by
    rw [okA] at h
    rw [fdA]
    show (nodK x.d && nodKA (fdA xs)) = true
    rw [ok_nod x h.1, okA_nod xs h.2]; rfl
end
structure Vl (d : D) : Prop where
  it : It d
  nod : nodK d = true
def vlB (d : D) : Bool := ndB 600000 20 20 d && nodK d
theorem vlB_ok {d : D} (h : vlB d = true) : Vl d := by
  unfold vlB at h
  rw [Bool.and_eq_true] at h
  exact ⟨itB h.1, h.2⟩
theorem vl_int {i : Int} (h : i.natAbs ≤ 1000) : Vl (.int i) := by
  have b : Bs 100 0 (.int i) := (bs_int (Nat.lt_of_le_of_lt h (by decide))).mono (by decide) (Nat.le_refl _)
  exact ⟨⟨b.plain, b.small, Nat.le_trans b.cost (by decide), Nat.le_trans b.depth (by decide)⟩, rfl⟩
section
variable {P : Program} {w : World} {K : PySem.W.Frag} {mg : Str → Option Value} {base : Heap}
abbrev COddV (P : Program) (w : World) (K : PySem.W.Frag) (mg : Str → Option Value) (base : Heap) : Prop := FnX P w K mg base 3 "_law_odd" 1 (tDraw Vl)
theorem vlB_all {xs : List D} (e : xs.all vlB = true) : ∀ x ∈ xs, Vl x := fun x hx => vlB_ok (List.all_eq_true.mp e x hx)
theorem vl_app {xs ys : List D} (h1 : ∀ z ∈ xs, Vl z) (h2 : ∀ z ∈ ys, Vl z) : ∀ z ∈ xs ++ ys, Vl z := fun z hz => (List.mem_append.mp hz).elim (h1 z) (h2 z)
theorem vl_cons {x : D} {xs : List D} (h1 : Vl x) (h2 : ∀ z ∈ xs, Vl z) : ∀ z ∈ x :: xs, Vl z := fun z hz => (List.mem_cons.mp hz).elim (fun e => e ▸ h1) (h2 z)
theorem ok_oddV (T : Tx K mg) (D0 : Dfn K mg "_law_odd" s__law_odd ["_law_bag_here"]) (c__law_one : COne P w K mg base := by assumption) (c__law_nested : CNest P w K mg base := by assumption) : COddV P w K mg base := by
  refine FnX.of D0 sc__law_odd rfl mono_tDraw len_tDraw fun f cdv A outer s H E hr => ⟨_, (pds_cons (pds_set (i := 1) sc__law_odd.nd rfl (Or.inl rfl) (pd_lst (pda_cons (pd_c pe_non fun _ => .non) (pda_cons (pd_c pe_bl fun _ => .bl _) (pda_cons (pd_c pe_bl fun _ => .bl _) (pda_cons (pd_c pe_int fun _ => .int _) (pda_cons (pd_c pe_int fun _ => .int _) (pda_cons (pd_neg (pd_c pe_int fun _ => .int _)) (pda_cons (pd_pow (pd_c pe_int fun _ => .int _) (pd_c pe_int fun _ => .int _)) (pda_cons (pd_add (pd_pow (pd_c pe_int fun _ => .int _) (pd_c pe_int fun _ => .int _)) (pd_c pe_int fun _ => .int _)) (pda_cons (pd_neg (pd_pow (pd_c pe_int fun _ => .int _) (pd_c pe_int fun _ => .int _))) (pda_cons (pd_pow (pd_c pe_int fun _ => .int _) (pd_c pe_int fun _ => .int _)) (pda_cons (pd_c pe_str fun _ => .str _) (pda_cons (pd_c pe_str fun _ => .str _) (pda_cons (pd_c pe_str fun _ => .str _) (pda_cons (pd_c pe_str fun _ => .str _) (pda_cons (pd_c pe_str fun _ => .str _) pda_nil)))))))))))))))))
      (pds_cons (pds_set (i := 1) sc__law_odd.nd rfl (Or.inl rfl) (pd_addV (pdv_var (pv 1)) (pdv_of (pd_lst (pda_cons (pd_c pe_str fun _ => .str _) (pda_cons (pd_c pe_str fun _ => .str _) (pda_cons (pd_c pe_str fun _ => .str _) (pda_cons (pd_c pe_str fun _ => .str _) (pda_cons (pd_lst pda_nil) (pda_cons (pd_tup pda_nil) (pda_cons pd_dK (pda_cons (pd_tup (pda_cons (pd_c pe_str fun _ => .str _) pda_nil)) (pda_cons (pd_tup (pda_cons (pd_c pe_str fun _ => .str _) pda_nil)) (pda_cons (pd_lst (pda_cons (pd_c pe_str fun _ => .str _) pda_nil)) (pda_cons (pd_tup (pda_cons (pd_c pe_str fun _ => .str _) (pda_cons (pd_c pe_int fun _ => .int _) pda_nil))) (pda_cons (pd_tup (pda_cons (pd_c pe_str fun _ => .str _) (pda_cons (pd_c pe_int fun _ => .int _) pda_nil))) pda_nil))))))))))))))))
      (pds_cons (pds_set (i := 1) sc__law_odd.nd rfl (Or.inl rfl) (pd_addV (pdv_var (pv 1)) (pdv_of (pd_lst (pda_cons (pd_tup (pda_cons (pd_c pe_str fun _ => .str _) (pda_cons (pd_c pe_bl fun _ => .bl _) pda_nil))) (pda_cons (pd_tup (pda_cons (pd_c pe_str fun _ => .str _) (pda_cons (pd_add (pd_pow (pd_c pe_int fun _ => .int _) (pd_c pe_int fun _ => .int _)) (pd_c pe_int fun _ => .int _)) pda_nil))) (pda_cons (pd_tup (pda_cons (pd_c pe_str fun _ => .str _) (pda_cons (pd_tup (pda_cons (pd_c pe_str fun _ => .str _) (pda_cons (pd_c pe_int fun _ => .int _) pda_nil))) (pda_cons (pd_tup (pda_cons (pd_c pe_str fun _ => .str _) pda_nil)) pda_nil)))) (pda_cons (pd_tup (pda_cons (pd_c pe_str fun _ => .str _) (pda_cons (pd_tup (pda_cons (pd_c pe_str fun _ => .str _) (pda_cons (pd_c pe_int fun _ => .int _) pda_nil))) (pda_cons (pd_tup (pda_cons (pd_c pe_str fun _ => .str _) pda_nil)) pda_nil)))) pda_nil))))))))
      (pds_cons (pds_set (i := 1) sc__law_odd.nd rfl (Or.inl rfl) (pd_addV (pdv_var (pv 1)) (pdv_of (pd_lst (pda_cons (pd_tup (pda_cons (pd_c pe_str fun _ => .str _) (pda_cons (pd_lst (pda_cons (pd_c pe_str fun _ => .str _) (pda_cons (pd_c pe_int fun _ => .int _) pda_nil))) (pda_cons (pd_tup (pda_cons (pd_c pe_str fun _ => .str _) pda_nil)) pda_nil)))) (pda_cons (pd_tup (pda_cons (pd_c pe_str fun _ => .str _) (pda_cons (pd_tup (pda_cons (pd_c pe_str fun _ => .str _) (pda_cons (pd_neg (pd_c pe_int fun _ => .int _)) pda_nil))) (pda_cons (pd_tup (pda_cons (pd_c pe_str fun _ => .str _) pda_nil)) pda_nil)))) (pda_cons (pd_tup (pda_cons (pd_c pe_str fun _ => .str _) (pda_cons (pd_tup (pda_cons (pd_c pe_str fun _ => .str _) (pda_cons (pd_c pe_int fun _ => .int _) pda_nil))) (pda_cons (pd_c pe_non fun _ => .non) (pda_cons (pd_c pe_non fun _ => .non) pda_nil))))) (pda_cons (pd_tup (pda_cons (pd_c pe_str fun _ => .str _) (pda_cons (pd_lst pda_nil) pda_nil))) pda_nil))))))))
      (pds_cons (pds_set (i := 1) sc__law_odd.nd rfl (Or.inl rfl) (pd_addV (pdv_var (pv 1)) (pdv_of (pd_lst (pda_cons (pd_tup (pda_cons (pd_c pe_str fun _ => .str _) (pda_cons (pd_tup pda_nil) pda_nil))) (pda_cons (pd_tup (pda_cons (pd_c pe_str fun _ => .str _) (pda_cons (pd_c pe_int fun _ => .int _) pda_nil))) (pda_cons (pd_tup (pda_cons (pd_c pe_str fun _ => .str _) pda_nil)) (pda_cons (pd_tup (pda_cons (pd_c pe_str fun _ => .str _) pda_nil)) (pda_cons (pd_tup (pda_cons (pd_c pe_str fun _ => .str _) pda_nil)) (pda_cons (pd_tup (pda_cons (pd_c pe_str fun _ => .str _) (pda_cons (pd_c pe_int fun _ => .int _) pda_nil))) (pda_cons (pd_tup (pda_cons (pd_c pe_str fun _ => .str _) (pda_cons (pd_tup (pda_cons (pd_c pe_str fun _ => .str _) pda_nil)) pda_nil))) (pda_cons (pd_disp (pdp_cons (pd_c pe_int fun _ => .int _) (pd_c pe_int fun _ => .int _) pdp_nil) (by rfl) (by rfl) (fun z => by cases z) (by decide)) pda_nil))))))))))))
      (pds_cons (pds_set (i := 1) sc__law_odd.nd rfl (Or.inl rfl) (pd_addV (pdv_var (pv 1)) (pdv_of (pd_lst (pda_cons (pd_tup (pda_cons (pd_c pe_str fun _ => .str _) (pda_cons (pd_tup (pda_cons (pd_c pe_str fun _ => .str _) pda_nil)) (pda_cons (pd_tup (pda_cons (pd_c pe_str fun _ => .str _) (pda_cons (pd_neg (pd_c pe_int fun _ => .int _)) pda_nil))) pda_nil)))) (pda_cons (pd_tup (pda_cons (pd_c pe_str fun _ => .str _) (pda_cons (pd_tup (pda_cons (pd_c pe_str fun _ => .str _) (pda_cons (pd_c pe_int fun _ => .int _) pda_nil))) (pda_cons (pd_c pe_int fun _ => .int _) pda_nil)))) (pda_cons (pd_fn c__law_nested (hr.mono (by omega)) (by rfl) (pda_cons (pd_c pe_int fun _ => .int _) pda_nil)) (pda_cons (pd_mulS (pd_lst (pda_cons (pd_c pe_int fun _ => .int _) pda_nil)) (pd_c pe_int fun _ => .int _)) (pda_cons (pd_tup (pda_cons (pd_c pe_str fun _ => .str _) (pda_cons (pd_c pe_str fun _ => .str _) pda_nil))) (pda_cons (pd_mulS (pd_c pe_str fun _ => .str _) (pd_c pe_int fun _ => .int _)) pda_nil))))))))))
      (pds_one (pds_ret (pd_fn c__law_one (hr.mono (by omega)) (by rfl) (pda_cons (pd_var (pv 0)) (pda_cons (pd_var (pv 1)) pda_nil))))))))))), fun rs Q h => ?_⟩
  obtain ⟨rfl, q⟩ := tDraw_in h
  repeat (first | refine ⟨by decide, ?_⟩ | refine ⟨rfl, ?_⟩ | refine ⟨⟨by decide, by decide, by decide⟩, ?_⟩ | refine ⟨⟨by decide, by decide⟩, ?_⟩)
  intro i x hx
  refine q x ((?_ : ∀ z ∈ _, Vl z) x (List.mem_of_getElem? hx))
  refine vl_app (vl_app (vl_app (vl_app (vl_app ?_ ?_) ?_) ?_) ?_) ?_
  · exact vlB_all (by decide +kernel)
  · exact vlB_all (by decide +kernel)
  · exact vlB_all (by decide +kernel)
  · exact vlB_all (by decide +kernel)
  · exact vlB_all (by decide +kernel)
  · refine vl_cons ?_ (vl_cons ?_ (vl_cons ?_ (vl_cons ?_ (vl_cons ?_ (vl_cons ?_ fun z hz => (List.not_mem_nil hz).elim)))))
    · exact vlB_ok (by decide +kernel)
    · exact vlB_ok (by decide +kernel)
    · exact vlB_ok (by decide +kernel)
    · exact vlB_ok (by decide +kernel)
    · exact vlB_ok (by decide +kernel)
    · exact ⟨It.of (nd_rep (c := 30000) (h := 20) (t := 3) (by decide +kernel) (by decide +kernel)) (by decide) (by decide), rfl⟩
end
structure Dx (c h : Nat) (d : D) : Prop where
  ct : Ct c h d
  nod : nodK d = true
theorem Dx.mono {c h c' h' : Nat} {d : D} (b : Dx c h d) (h1 : c ≤ c') (h2 : h ≤ h') : Dx c' h' d := ⟨b.ct.mono h1 h2, b.nod⟩
theorem dx_lst {c h : Nat} {xs : List D} (hx : ∀ x ∈ xs, Dx c h x) : Dx ((c + 2) * xs.length + 3) (h + 1) (.lst xs) := ⟨ct_lst fun x hm => (hx x hm).ct, nodKA_of fun x hm => (hx x hm).nod⟩
theorem dx_tup {c h : Nat} {xs : List D} (hx : ∀ x ∈ xs, Dx c h x) : Dx ((c + 2) * xs.length + 3) (h + 1) (.tup xs) := ⟨ct_tup fun x hm => (hx x hm).ct, nodKA_of fun x hm => (hx x hm).nod⟩
theorem Vl.dx {d : D} (h : Vl d) : Dx 600000 20 d := ⟨h.it.ct, h.nod⟩
theorem Dx.same {c h : Nat} {d : D} (b : Dx c h d) (hc : conB d = true) (h1 : c ≤ sizeLine) (h2 : h ≤ 60) : SameE d d :=
  ⟨rfl, .inl ⟨⟨b.ct.plain, b.nod, Nat.le_trans b.ct.dep h2⟩, hc, showM_of b.ct.plain b.ct.small (Nat.le_trans b.ct.cost h1) (by have := b.ct.dep; omega)⟩⟩
theorem dx_two {a b h : Nat} {x y : D} (hx : Dx a h x) (hy : Dx b h y) : Dx (a + b + 7) (h + 1) (.tup [x, y]) := by
  have z := dx_tup (c := max a b) (h := h) (xs := [x, y]) fun z hz => by
    rcases List.mem_cons.mp hz with rfl | hz
    · exact hx.mono (Nat.le_max_left _ _) (Nat.le_refl _)
    · rw [List.mem_singleton.mp hz]; exact hy.mono (Nat.le_max_right _ _) (Nat.le_refl _)
  refine ⟨⟨z.ct.plain, z.ct.small, ?_, z.ct.dep⟩, z.nod⟩
  have h1 := hx.ct.cost
  have h2 := hy.ct.cost
  show costA [x, y] + 3 ≤ a + b + 7
  rw [costA, costA, costA]
  omega
end K20
set_option Elab.async false
set_option linter.all false
set_option maxRecDepth 100000
set_option maxHeartbeats 4000000
namespace K20
open PySem PySem.Spec PyProof.Rows L2 DL
def AskC (C : Addr) (d : D) : Prop := plainD d = true ∨ ∃ ns ds, d = .ins C ns ds
theorem AskC.ins {C : Addr} {d : D} (h : AskC C d) : InsOf C d := h.elim (fun z => .inl (plain_ins z)) .inr
theorem isAt_nat {a : D} {n : Nat} (h : isAt a n = true) : ∃ k : Nat, a = .int (k : Nat) ∧ k < n := by
  cases a with
  | int i =>
    have h : (decide (0 ≤ i) && decide (i < (n : Int))) = true := h
    rw [Bool.and_eq_true, decide_eq_true_eq, decide_eq_true_eq] at h
    exact ⟨i.toNat, by rw [show ((i.toNat : Nat) : Int) = i by omega], by omega⟩
  | _ => cases h
theorem fd_tup : ∀ f : Fm, ∃ s xs, f.d = .tup (.str s :: xs)
  | .num _ => by rw [Fm.d]; exact ⟨_, _, rfl⟩
  | .emp => by rw [Fm.d]; exact ⟨_, _, rfl⟩
  | .inp => by rw [Fm.d]; exact ⟨_, _, rfl⟩
  | .nm _ _ => by rw [Fm.d]; exact ⟨_, _, rfl⟩
  | .rg _ _ _ _ => by rw [Fm.d]; exact ⟨_, _, rfl⟩
  | .node g xs => by
    rw [Fm.d]
    cases g with
    | mn w => exact ⟨_, _, rfl⟩
    | tm i => exact ⟨_, _, rfl⟩
    | ov => exact ⟨_, _, rfl⟩
    | cs s =>
      cases h : fdA xs with
      | nil => exact ⟨_, _, rfl⟩
      | cons d ds => exact ⟨_, _, rfl⟩
theorem part_tp {c : D} (h : isPart c = true) : tupD c = true := by
  rcases part_cases h with rfl | ⟨i, rfl⟩ | ⟨i, rfl, _⟩ <;> rfl
theorem row_tp {c : D} (h : isRow c = true) : tupD c = true := by
  rcases row_cases h with ⟨w, rfl, _⟩ | ⟨w, i, rfl, _⟩ <;> rfl
theorem lim_tp {c : D} (h : isLim c = true) : tupD c = true := by
  rcases lim_cases h with rfl | ⟨i, rfl⟩ <;> rfl
theorem hdD_tp {g : Hd} {ds : List D} (h : tupDA ds = true) : tupD (hdD g ds) = true := by
  cases g with
  | mn w => show (true && (tupDA ds && true)) = true; rw [h]; rfl
  | tm i => show (true && (true && tupDA ds)) = true; rw [h]; rfl
  | ov => show (true && tupDA ds) = true; rw [h]; rfl
  | cs s =>
    cases ds with
    | nil => rfl
    | cons d ds =>
      rw [tupDA, Bool.and_eq_true] at h
      show (true && (tupD d && (true && tupDA ds))) = true
      rw [h.1, h.2]; rfl
mutual
theorem ok_tp : ∀ f : Fm, f.ok → tupD f.d = true
  | .num i, _ => by rw [Fm.d]; rfl
  | .emp, _ => by rw [Fm.d]; rfl
  | .inp, _ => by rw [Fm.d]; rfl
  | .nm c r, h => by
    rw [Fm.ok] at h
    rw [Fm.d]
    show (true && (tupD c && (tupD r && true))) = true
    rw [part_tp h.1, row_tp h.2]; rfl
  | .rg w c a b, h => by
    rw [Fm.ok] at h
    rw [Fm.d]
    show (true && ((true && (tupD c && (tupD a && (tupD b && true)))) && true)) = true
    rw [part_tp h.1, lim_tp h.2.1, lim_tp h.2.2]; rfl
  | .node g xs, h => by rw [Fm.ok] at h; rw [Fm.d]; exact hdD_tp (okA_tp xs h.2)
theorem okA_tp : ∀ xs : List Fm, okA xs → tupDA (fdA xs) = true
  | [], _ => by rw [fdA]; rfl
  | x :: xs, h => by
    rw [okA] at h
    rw [fdA]
    show (tupD x.d && tupDA (fdA xs)) = true
    rw [ok_tp x h.1, okA_tp xs h.2]; rfl
end
theorem col_tp {c : Col} (g : c.Fine) : tupD c.d = true := by
  show (tupD c.h.d && (tupD c.b.d && (tupD c.f.d && true))) = true
  rw [ok_tp _ g.h.ok, ok_tp _ g.b.ok, ok_tp _ g.f.ok]; rfl
theorem cols_tp : ∀ {cs : List Col}, (∀ c ∈ cs, c.Fine) → tupDA (cs.map Col.d) = true
  | [], _ => rfl
  | c :: cs, g => by
    rw [List.map_cons, tupDA, col_tp (g c List.mem_cons_self), cols_tp fun x hx => g x (List.mem_cons_of_mem _ hx)]; rfl
mutual
theorem tp_av (m : D) : ∀ d : D, tupD d = true → avX m d
  | .non, _ => trivial
  | .bl _, _ => trivial
  | .int _, _ => trivial
  | .str _, _ => trivial
  | .tup xs, h => by rw [avX]; rw [tupD] at h; exact tpA_av m xs h
  | .lst _, h => by rw [tupD] at h; cases h
  | .dK _ _, h => by rw [tupD] at h; cases h
  | .dT _ _, h => by rw [tupD] at h; cases h
  | .dL _ _, h => by rw [tupD] at h; cases h
  | .ins _ _ _, h => by rw [tupD] at h; cases h
theorem tpA_av (m : D) : ∀ ds : List D, tupDA ds = true → avXA m ds
  | [], _ => trivial
  | d :: ds, h => by
    rw [tupDA, Bool.and_eq_true] at h
    exact ⟨tp_av m d h.1, tpA_av m ds h.2⟩
end
theorem cd_tup (c : Col) : ∃ xs, c.d = .tup (c.h.d :: xs) := ⟨[c.b.d, c.f.d], rfl⟩
section
variable {P : Program} {w : World} {K : PySem.W.Frag} {mg : Str → Option Value} {base : Heap}
def tIsIntI (C : Addr) : TF := fun rs Q => ∃ d, rs = [.dt d] ∧ AskC C d ∧ Q (.dt (.bl (isInt d)))
abbrev C_isI (P : Program) (w : World) (K : PySem.W.Frag) (mg : Str → Option Value) (base : Heap) : Prop := FnX P w K mg base 1 "is_integer" 1 (tIsIntI (He.ga K "Sheet"))
theorem ok_isI (T : Tx K mg) (D0 : Dfn K mg "is_integer" s_is_integer ["thing"]) : C_isI P w K mg base := by
  refine FnX.of (k := 0) D0 sc_is_integer rfl (fun rs Q Q' ⟨a, b, c, q⟩ w => ⟨a, b, c, w _ q⟩) (fun rs Q ⟨a, b, _⟩ => by rw [b] <;> rfl) fun f cdv A outer s H E hr => ⟨_, (pds_one (pds_ret (pd_and (pd_isiX .int (T.o_Sheet.ic T.k_Sheet) T.q_Sheet_int (by rfl) T.b_isinstance (by rfl) T.b_int boot_intT (pd_var (pv 0))) (pd_one (pd_not (pd_isiX .bool (T.o_Sheet.ic T.k_Sheet) T.q_Sheet_bool (by rfl) T.b_isinstance (by rfl) T.b_bool boot_boolT (pd_var (pv 0)))))))), fun rs Q h => ?_⟩
  obtain ⟨d, rfl, ha, q⟩ := h
  refine ⟨ha.ins, ?_⟩
  cases d with
  | int i => exact ⟨ha.ins, q⟩
  | bl b => exact ⟨ha.ins, q⟩
  | _ => exact q
def tHasX (C : Addr) : TF := fun rs Q => ∃ (cs : List Col) (d : D), rs = [.dt (sheetD C cs), .dt d] ∧ AskC C d ∧ Q (.dt (.bl (isAt d cs.length)))
abbrev M_hasX (P : Program) (w : World) (K : PySem.W.Frag) (mg : Str → Option Value) (base : Heap) : Prop := MthX P w K mg base 2 (He.ga K "Sheet") "has_column" 2 (tHasX (He.ga K "Sheet"))
theorem ok_hasX (T : Tx K mg) (D0 : Dfm K (He.ga K "Sheet") "has_column" "Sheet.has_column" s_Sheet_has_column ["self", "thing"]) (c_is_integer : C_isI P w K mg base) : M_hasX P w K mg base := by
  refine MthX.of T.k_Sheet D0 sc_Sheet_has_column rfl (fun rs Q Q' ⟨c, a, b, e, q⟩ w => ⟨c, a, b, e, w _ q⟩) (fun rs Q ⟨c, a, b, _⟩ => by rw [b]; rfl) fun f cdv A outer s H E hr => ⟨_, (pds_one (pds_ret (pd_and (pd_fn c_is_integer (hr.mono (by omega)) (by rfl) (pda_cons (pd_var (pv 1)) pda_nil)) (pd_one (pd_chain op_le op_lt mono_fLe mono_fLt (opS_I0 fun _ _ _ => .bl _) (opS_I0 fun _ _ _ => .bl _) (pd_c pe_int fun _ => .int _) (pd_var (pv 1)) (pd_len (by rfl) T.b_len (pda_cons (pd_fld T.k_Sheet T.n_Sheet_its_columns (pd_var (pv 0))) pda_nil))))))), fun rs Q h => ?_⟩
  obtain ⟨cs, d, rfl, pl, q⟩ := h
  refine ⟨_, rfl, pl, ?_⟩
  cases d with
  | int a =>
    refine if_yes rfl ?_
    refine and_in (Q := qb Q) q fun q => ?_
    refine ⟨rfl, _, rfl, ?_⟩
    show Q (.dt (.bl (decide (a < ((cs.map Col.d).length : Nat)))))
    rw [List.length_map]
    exact q
  | _ => exact q
def tCols (C : Addr) : TF := fun rs Q => ∃ cs : List Col, rs = [.dt (sheetD C cs)] ∧ cs.length ≤ 1000 ∧ Q (.ol (cs.map Col.d))
abbrev M_columns (P : Program) (w : World) (K : PySem.W.Frag) (mg : Str → Option Value) (base : Heap) : Prop := MthX P w K mg base 1 (He.ga K "Sheet") "columns" 1 (tCols (He.ga K "Sheet"))
theorem ok_columns (T : Tx K mg) (D0 : Dfm K (He.ga K "Sheet") "columns" "Sheet.columns" s_Sheet_columns ["self"]) : M_columns P w K mg base := by
  refine MthX.of T.k_Sheet D0 sc_Sheet_columns rfl (fun rs Q Q' ⟨c, a, b, q⟩ w => ⟨c, a, b, w _ q⟩) (fun rs Q ⟨c, a, _⟩ => by rw [a]; rfl) fun f cdv A outer s H E hr => ⟨_, (pds_one (pds_ret (pd_list (by rfl) T.b_list (pda_cons (pd_fld T.k_Sheet T.n_Sheet_its_columns (pd_var (pv 0))) pda_nil)))), fun rs Q h => ?_⟩
  obtain ⟨cs, rfl, hl, q⟩ := h
  exact ⟨rfl, _, rfl, by rw [List.length_map]; have := sizeLine_eq; omega, q⟩
def tLen (C : Addr) : TF := fun rs Q => ∃ cs : List Col, rs = [.dt (sheetD C cs)] ∧ Q (.dt (.int (cs.length : Nat)))
abbrev M_len (P : Program) (w : World) (K : PySem.W.Frag) (mg : Str → Option Value) (base : Heap) : Prop := MthX P w K mg base 1 (He.ga K "Sheet") "__len__" 1 (tLen (He.ga K "Sheet"))
theorem ok_len (T : Tx K mg) (D0 : Dfm K (He.ga K "Sheet") "__len__" "Sheet.__len__" s_Sheet___len__ ["self"]) : M_len P w K mg base := by
  refine MthX.of T.k_Sheet D0 sc_Sheet___len__ rfl (fun rs Q Q' ⟨c, a, q⟩ w => ⟨c, a, w _ q⟩) (fun rs Q ⟨c, a, _⟩ => by rw [a]; rfl) fun f cdv A outer s H E hr => ⟨_, (pds_one (pds_ret (pd_len (by rfl) T.b_len (pda_cons (pd_fld T.k_Sheet T.n_Sheet_its_columns (pd_var (pv 0))) pda_nil)))), fun rs Q h => ?_⟩
  obtain ⟨cs, rfl, q⟩ := h
  refine ⟨rfl, _, rfl, ?_⟩
  show Q (.dt (.int (((cs.map Col.d).length : Nat) : Int)))
  rw [List.length_map]
  exact q
def tGetX (K : PySem.W.Frag) : TFE := fun rs Q W => ∃ (cs : List Col) (d : D), rs = [.dt (sheetD (He.ga K "Sheet") cs), .dt d] ∧ AskC (He.ga K "Sheet") d ∧ (∀ (k : Nat) (c : Col), d = .int (k : Nat) → cs[k]? = some c → Q (.dt c.d)) ∧ (isAt d cs.length = false → W (He.ga K "NoColumn") ["column"] [d])
abbrev M_get (P : Program) (w : World) (K : PySem.W.Frag) (mg : Str → Option Value) (base : Heap) : Prop := MthE P w K mg base 4 (He.ga K "Sheet") "__getitem__" 2 (tGetX K)
theorem ok_get (T : Tx K mg) (D0 : Dfm K (He.ga K "Sheet") "__getitem__" "Sheet.__getitem__" s_Sheet___getitem__ ["self", "column"]) (m_Sheet_has_column : M_hasX P w K mg base) (x_NoColumn : ExcX P w K mg base 1 (He.ga K "NoColumn") "NoColumn" "column") : M_get P w K mg base := by
  refine MthE.of (k := 3) T.k_Sheet D0 sc_Sheet___getitem__ rfl (fun rs Q Q' W W' ⟨a, b, c, d, e, g⟩ w w' => ⟨a, b, c, d, fun k x y z => w _ (e k x y z), fun z => w' _ _ _ (g z)⟩) (fun rs Q W ⟨a, b, c, _⟩ => by rw [c]; rfl) fun f cdv A outer s H E hr => ⟨_, (pds_cons (pds_if (pdt_not (pdt_b (pd_meth m_Sheet_has_column (hr.mono (by omega)) (pd_var (pv 0)) (pda_cons (pd_var (pv 1)) pda_nil)))) (pds_one (pds_raise x_NoColumn rfl (hr.mono (by omega)) (by rfl) (pd_var (pv 1)))) pds_nil)
      (pds_one (pds_ret (pd_ixV (pdv_of (pd_fld T.k_Sheet T.n_Sheet_its_columns (pd_var (pv 0)))) (pdv_var (pv 1)) (fun _ _ => rfl))))), fun rs Q W h => ?_⟩
  obtain ⟨cs, d, rfl, pl, q1, q2⟩ := h
  refine ⟨rfl, by decide, cs, d, rfl, pl, ?_⟩
  cases hb : isAt d cs.length with
  | true =>
    obtain ⟨k, rfl, hk⟩ := isAt_nat hb
    refine ⟨rfl, _, rfl, ?_⟩
    refine ⟨_, atI_of (j := k) rfl (by rw [List.getElem?_map, List.getElem?_eq_getElem hk]; rfl), ?_⟩
    exact q1 k _ rfl (List.getElem?_eq_getElem hk)
  | false => exact q2 hb
theorem cols_lay {cs : List Col} (g : ∀ c ∈ cs, c.Good) : SeqAt.shaped (py (.lst (cs.map Col.d))) = true := by
  refine lay_lst (c := 1800009) (h := 21) (fun d hd => ?_) (by decide)
  obtain ⟨c, hc, rfl⟩ := List.mem_map.mp hd
  exact (g c hc).bs
def eqS (cs es : List Col) : Bool := PyData.eqv (py (.lst (cs.map Col.d))) (py (.lst (es.map Col.d)))
def ShL (cs : List Col) : Prop := SeqAt.shaped (py (.lst (cs.map Col.d))) = true
def tEqX (C : Addr) : TF := fun rs Q => ∃ (cs : List Col) (d : D), rs = [.dt (sheetD C cs), .dt d] ∧ cs.length ≤ 1000 ∧ ((plainD d = true ∧ Q (.dt (.bl false))) ∨ ∃ es : List Col, d = sheetD C es ∧ es.length ≤ 1000 ∧ ShL cs ∧ ShL es ∧ Q (.dt (.bl (eqS cs es))))
abbrev M_eq (P : Program) (w : World) (K : PySem.W.Frag) (mg : Str → Option Value) (base : Heap) : Prop := MthX P w K mg base 3 (He.ga K "Sheet") "__eq__" 2 (tEqX (He.ga K "Sheet"))
theorem ok_eq (T : Tx K mg) (D0 : Dfm K (He.ga K "Sheet") "__eq__" "Sheet.__eq__" s_Sheet___eq__ ["self", "other"]) (m_Sheet_columns : M_columns P w K mg base) : M_eq P w K mg base := by
  refine MthX.of (k := 2) T.k_Sheet D0 sc_Sheet___eq__ rfl (fun rs Q Q' ⟨c, d, a, b, q⟩ w => ⟨c, d, a, b, q.imp (fun q => ⟨q.1, w _ q.2⟩) fun ⟨es, q1, q2, q3, q4, q5⟩ => ⟨es, q1, q2, q3, q4, w _ q5⟩⟩) (fun rs Q ⟨c, d, a, _⟩ => by rw [a]; rfl) fun f cdv A outer s H E hr => ⟨_, (pds_one (pds_ret (pd_and (pd_isOX (T.o_Sheet.ic T.k_Sheet) T.s_Sheet (by rfl) T.b_isinstance (by rfl) T.g_Sheet (pd_var (pv 1))) (pd_one (pd_eq hr.units (pd_fld T.k_Sheet T.n_Sheet_its_columns (pd_var (pv 0))) (pd_meth0 m_Sheet_columns (hr.mono (by omega)) (pd_var (pv 1)))))))), fun rs Q h => ?_⟩
  obtain ⟨cs, d, rfl, hl, h⟩ := h
  rcases h with ⟨pl, q⟩ | ⟨es, rfl, hl2, s1, s2, q⟩
  · refine ⟨.inl (plain_ins pl), ?_⟩
    cases d <;> first | (cases pl; done) | exact q
  · refine ⟨.inr ⟨_, _, rfl⟩, ?_⟩
    refine if_yes rfl ?_
    refine ⟨rfl, _, rfl, ?_⟩
    refine ⟨rfl, by decide, es, rfl, hl2, ?_⟩
    exact ⟨s1, s2, q⟩
def tInitS : TFI := fun rs Q => ∃ (t : Bool) (cs : List Col), rs = [.dt (seqP t (cs.map Col.d))] ∧ cs.length ≤ 1000 ∧ (∀ c ∈ cs, c.Fine) ∧ Q ["its_columns"] [.lst (cs.map Col.d)]
abbrev I_SheetS (P : Program) (w : World) (K : PySem.W.Frag) (mg : Str → Option Value) (base : Heap) : Prop := InitX P w K mg base 22 (He.ga K "Sheet") "Sheet" 1 tInitS
theorem ok_Sheet_initS (T : Tx K mg) (D0 : Dfi K mg (He.ga K "Sheet") "Sheet" "Sheet.__init__" s_Sheet___init__ ["self", "columns"]) (c_fits : C_fits 5 P w K mg base) (c_is_row_of_formulas : C_is_row_of_formulas P w K mg base := by assumption) : I_SheetS P w K mg base := by
  refine InitX.of (k := 21) D0 sc_Sheet___init__ rfl (fun rs Q Q' ⟨t, c, a, b, d, q⟩ w => ⟨t, c, a, b, d, w _ _ q⟩) (fun rs Q ⟨t, c, a, _⟩ => by rw [a]; rfl) fun f cdv A outer s H E hr => ⟨_, (pds_cons (pds_if (PDW.t (pdw_or (pdt_not (pdt_b (pd_isi2 .list .tuple (by rfl) T.b_isinstance (by rfl) T.b_list boot_listT (by rfl) T.b_tuple boot_tupleT (pd_var (pv 1))))) (pdw_or1 (pdt_not (pdt_b (pd_all rfl (by rfl) T.b_all (pda_cons (pd_lc rfl sc_Sheet___init__.nd (pdi_over (pd_var (pv 1))) (blkOk_by (own := [("one", 2)]) (N := ["self", "columns", "one", "at", "column", "place", "formula"]) (sc := defScope s_Sheet___init__) (by decide +kernel)) rfl (fun _ _ _ _ _ => (pdg_name (pg_name (i := 2) sc_Sheet___init__.nd rfl (Or.inl rfl)))) (fun _ _ _ _ _ => pdts_nil) (fun _ _ _ _ _ => (pd_fn c_is_row_of_formulas (hr.mono (by omega)) (by rfl) (pda_cons (pd_var (pv 2)) pda_nil)))) pda_nil))))))) (pds_one pds_never) pds_nil)
      (pds_cons (pds_for PassesOwn.never rfl (pdi_enumX (by rfl) T.b_enumerate (pda_cons (pd_var (pv 1)) pda_nil)) (pdg_names (is := [3, 4]) (pg_tup rfl (pgs_cons (pg_name (i := 3) sc_Sheet___init__.nd rfl (Or.inl rfl)) (pgs_cons (pg_name (i := 4) sc_Sheet___init__.nd rfl (Or.inl rfl)) pgs_nil))) rfl) (pds_one (pds_for PassesOwn.never rfl (pdi_zipX (by rfl) T.b_zip (pda_cons (pd_gtup T.g_PLACES T.t_PLACES (fun _ => (.cons (.str _) (.cons (.str _) (.cons (.str _) .nil)))) (by rfl)) (pda_cons (pd_var (pv 4)) pda_nil))) (pdg_names (is := [5, 6]) (pg_tup rfl (pgs_cons (pg_name (i := 5) sc_Sheet___init__.nd rfl (Or.inl rfl)) (pgs_cons (pg_name (i := 6) sc_Sheet___init__.nd rfl (Or.inl rfl)) pgs_nil))) rfl) (pds_one (pds_if (pdt_not (pdt_b (pd_fn c_fits (hr.mono (by omega)) (by rfl) (pda_cons (pd_var (pv 6)) (pda_cons (pd_var (pv 5)) pda_nil))))) (pds_one pds_never) pds_nil)))))
      (pds_one (pds_fld T.k_Sheet T.n_Sheet_its_columns (pv 0) (pd_lc rfl sc_Sheet___init__.nd (pdi_over (pd_var (pv 1))) (blkOk_by (own := [("column", 4)]) (N := ["self", "columns", "one", "at", "column", "place", "formula"]) (sc := defScope s_Sheet___init__) (by decide +kernel)) rfl (fun _ _ _ _ _ => (pdg_name (pg_name (i := 4) sc_Sheet___init__.nd rfl (Or.inl rfl)))) (fun _ _ _ _ _ => pdts_nil) (fun _ _ _ _ _ => (pd_tupleV (by rfl) T.b_tuple (pdv_var (pv 4))))))))), fun xa rs Q h => ?_⟩
  obtain ⟨t, cs, rfl, hl, g, q⟩ := h
  have z1 := sizeLine_eq
  have e : blsOf ([] ++ cs.map fun _ => DL.D.bl true) = some (cs.map fun _ => true) := by
    have z := blsOf_map (cs.map fun _ => true)
    rw [List.map_map] at z
    exact z
  obtain ⟨tt, ht⟩ : ∃ tt, tt = t := ⟨t, rfl⟩
  cases t
  all_goals
    refine ⟨rfl, ?_⟩
    refine if_no rfl ?_
    refine ⟨by rw [List.length_map]; omega, ?_⟩
    refine comp_map Col.d (fun _ => .bl true) cs _ _ (fun x hx C hC => ⟨(false, x), rfl, g x hx, hC _ rfl⟩) ?_
    dsimp only [az, fz, Option.map, tdNil, f1]
    refine gAll_of e ?_
    dsimp only
    rw [List.map_const', all_true]
    refine forD_L (fun ds δ => ∃ (k : Nat) (xs : List Col) (s2 s3 s4 s5 s6 : Sl), ds = enumD k (xs.map Col.d) ∧ (∀ c ∈ xs, c.Fine) ∧ δ = [.oI xa (He.ga K "Sheet") [] [], .dt (seqP tt (cs.map Col.d)), s2, s3, s4, s5, s6]) ?_ ?_ _ _ ⟨0, cs, .no, .no, .no, .no, .no, rfl, g, by cases ht; rfl⟩
    · rintro d ds δ N ⟨k, xs, s2, s3, s4, s5, s6, e1, e2, rfl⟩ hN
      cases xs with
      | nil => cases e1
      | cons x xs =>
        cases e1
        have gx : x.Fine := e2 x List.mem_cons_self
        refine ⟨rfl, ?_⟩
        refine ⟨rfl, ?_⟩
        refine ⟨_, _, _, rfl, ⟨x.h, "head", rfl, rfl, gx.h.sm, gx.h.rds, rfl⟩, ?_⟩
        rw [gx.h.fits]
        refine ⟨rfl, ?_⟩
        refine ⟨_, _, _, rfl, ⟨x.b, "body", rfl, rfl, gx.b.sm, gx.b.rds, rfl⟩, ?_⟩
        rw [gx.b.fits]
        refine ⟨rfl, ?_⟩
        refine ⟨_, _, _, rfl, ⟨x.f, "foot", rfl, rfl, gx.f.sm, gx.f.rds, rfl⟩, ?_⟩
        rw [gx.f.fits]
        exact hN _ ⟨k + 1, xs, _, _, _, _, _, rfl, fun c hc => e2 c (List.mem_cons_of_mem _ hc), rfl⟩
    · rintro δ ⟨k, xs, s2, s3, s4, s5, s6, e1, e2, rfl⟩
      subst ht
      refine ⟨by rw [List.length_map]; omega, ?_⟩
      refine comp_map Col.d (fun c => c.d) cs _ _ (fun x hx C hC => hC _ rfl) ?_
      exact ⟨rfl, by simp, by decide, _, _, rfl, q⟩
def tInitO : TFO := fun L Q => ∃ ps : List (Bool × Col), L = ps.map rowP ∧ ps.length ≤ 1000 ∧ (∀ p ∈ ps, p.2.Fine) ∧ Q ["its_columns"] [.lst (ps.map fun p => p.2.d)]
abbrev I_SheetO (P : Program) (w : World) (K : PySem.W.Frag) (mg : Str → Option Value) (base : Heap) : Prop := InitO P w K mg base 22 (He.ga K "Sheet") "Sheet" tInitO
theorem ok_Sheet_initO (T : Tx K mg) (D0 : Dfi K mg (He.ga K "Sheet") "Sheet" "Sheet.__init__" s_Sheet___init__ ["self", "columns"]) (c_fits : C_fits 5 P w K mg base) (c_is_row_of_formulas : C_is_row_of_formulas P w K mg base := by assumption) : I_SheetO P w K mg base := by
  refine InitO.of (k := 21) D0 sc_Sheet___init__ rfl (by decide) (fun L Q Q' ⟨c, a, b, d, q⟩ w => ⟨c, a, b, d, w _ _ q⟩) fun f cdv A outer s H E hr => ⟨_, (pds_cons (pds_if (pdt_thaw (PDW.t (pdw_or (pdt_not (pdt_b (pd_isi2 .list .tuple (by rfl) T.b_isinstance (by rfl) T.b_list boot_listT (by rfl) T.b_tuple boot_tupleT (pd_var (pv 1))))) (pdw_or1 (pdt_not (pdt_b (pd_all rfl (by rfl) T.b_all (pda_cons (pd_lc rfl sc_Sheet___init__.nd (pdi_over (pd_var (pv 1))) (blkOk_by (own := [("one", 2)]) (N := ["self", "columns", "one", "at", "column", "place", "formula"]) (sc := defScope s_Sheet___init__) (by decide +kernel)) rfl (fun _ _ _ _ _ => (pdg_name (pg_name (i := 2) sc_Sheet___init__.nd rfl (Or.inl rfl)))) (fun _ _ _ _ _ => pdts_nil) (fun _ _ _ _ _ => (pd_fn c_is_row_of_formulas (hr.mono (by omega)) (by rfl) (pda_cons (pd_var (pv 2)) pda_nil)))) pda_nil)))))))) (pds_one pds_never) pds_nil)
      (pds_cons (pds_forLE PassesOwn.never rfl (by rfl) T.b_enumerate (pv 1) (pdg_names (is := [3, 4]) (pg_tup rfl (pgs_cons (pg_name (i := 3) sc_Sheet___init__.nd rfl (Or.inl rfl)) (pgs_cons (pg_name (i := 4) sc_Sheet___init__.nd rfl (Or.inl rfl)) pgs_nil))) rfl) (pds_one (pds_for PassesOwn.never rfl (pdi_zipX (by rfl) T.b_zip (pda_cons (pd_gtup T.g_PLACES T.t_PLACES (fun _ => (.cons (.str _) (.cons (.str _) (.cons (.str _) .nil)))) (by rfl)) (pda_cons (pd_var (pv 4)) pda_nil))) (pdg_names (is := [5, 6]) (pg_tup rfl (pgs_cons (pg_name (i := 5) sc_Sheet___init__.nd rfl (Or.inl rfl)) (pgs_cons (pg_name (i := 6) sc_Sheet___init__.nd rfl (Or.inl rfl)) pgs_nil))) rfl) (pds_one (pds_if (pdt_thaw (pdt_not (pdt_b (pd_fn c_fits (hr.mono (by omega)) (by rfl) (pda_cons (pd_var (pv 6)) (pda_cons (pd_var (pv 5)) pda_nil)))))) (pds_one pds_never) pds_nil)))))
      (pds_one (pds_fld T.k_Sheet T.n_Sheet_its_columns (pv 0) (pd_thawL (pd_lc rfl sc_Sheet___init__.nd (pdi_over (pd_var (pv 1))) (blkOk_by (own := [("column", 4)]) (N := ["self", "columns", "one", "at", "column", "place", "formula"]) (sc := defScope s_Sheet___init__) (by decide +kernel)) rfl (fun _ _ _ _ _ => (pdg_name (pg_name (i := 4) sc_Sheet___init__.nd rfl (Or.inl rfl)))) (fun _ _ _ _ _ => pdts_nil) (fun _ _ _ _ _ => (pd_tupleV (by rfl) T.b_tuple (pdv_var (pv 4)))))))))), fun xa a L Q h => ?_⟩
  obtain ⟨ps, rfl, hl, g, q⟩ := h
  have z1 := sizeLine_eq
  have e : blsOf ([] ++ ps.map fun _ => DL.D.bl true) = some (ps.map fun _ => true) := by
    have z := blsOf_map (ps.map fun _ => true)
    rw [List.map_map] at z
    exact z
  refine ⟨rfl, ?_⟩
  refine if_no rfl ?_
  refine ⟨by rw [List.length_map]; omega, ?_⟩
  refine comp_map rowP (fun _ => .bl true) ps _ _ (fun x hx C hC => ⟨x, rfl, g x hx, hC _ rfl⟩) ?_
  dsimp only [az, fz, Option.map, tdNil, f1]
  refine gAll_of e ?_
  dsimp only
  rw [List.map_const', all_true]
  refine if_no rfl ?_
  refine forLE_L (x := a) (ds0 := ps.map rowP) (fun n ds δ => ∃ (xs : List (Bool × Col)) (s2 s3 s4 s5 s6 : Sl), ds = xs.map rowP ∧ (∀ c ∈ xs, c.2.Fine) ∧ (s2.isOwn = false ∧ s3.isOwn = false ∧ s4.isOwn = false ∧ s5.isOwn = false ∧ s6.isOwn = false) ∧ δ = [.oI xa (He.ga K "Sheet") [] [], .oL a (ps.map rowP), s2, s3, s4, s5, s6]) ?_ ?_ 0 _ _ ⟨ps, .no, .no, .no, .no, .no, rfl, g, ⟨rfl, rfl, rfl, rfl, rfl⟩, rfl⟩
  · rintro n d ds δ N ⟨xs, s2, s3, s4, s5, s6, e1, e2, e3, rfl⟩ hN
    cases xs with
    | nil => cases e1
    | cons x xs =>
      cases e1
      obtain ⟨bx, x⟩ := x
      have gx : x.Fine := e2 (bx, x) List.mem_cons_self
      cases bx
      all_goals
        refine ⟨rfl, ?_⟩
        refine ⟨rfl, ?_⟩
        refine ⟨rfl, ?_⟩
        refine ⟨_, _, _, rfl, ⟨x.h, "head", rfl, rfl, gx.h.sm, gx.h.rds, rfl⟩, ?_⟩
        rw [gx.h.fits]
        refine ⟨rfl, ?_⟩
        refine ⟨_, _, _, rfl, ⟨x.b, "body", rfl, rfl, gx.b.sm, gx.b.rds, rfl⟩, ?_⟩
        rw [gx.b.fits]
        refine ⟨rfl, ?_⟩
        refine ⟨_, _, _, rfl, ⟨x.f, "foot", rfl, rfl, gx.f.sm, gx.f.rds, rfl⟩, ?_⟩
        rw [gx.f.fits]
        exact hN _ ⟨xs, _, _, _, _, _, rfl, fun c hc => e2 c (List.mem_cons_of_mem _ hc), ⟨e3.1, rfl, rfl, rfl, rfl⟩, rfl⟩
  · rintro n δ ⟨xs, s2, s3, s4, s5, s6, e1, e2, ⟨o2, o3, o4, o5, o6⟩, rfl⟩
    refine ⟨rfl, ?_⟩
    refine ⟨by rw [List.length_map]; omega, ?_⟩
    refine comp_map rowP (fun p => p.2.d) ps _ _ (fun x hx C hC => ?_) ?_
    · obtain ⟨bx, x⟩ := x
      cases bx <;> exact hC _ rfl
    · refine ⟨⟨_, rfl, ?_⟩, ?_, ?_⟩
      · have z := cols_tp (cs := ps.map (·.2)) fun c hc => by
          obtain ⟨p, hp, rfl⟩ := List.mem_map.mp hc
          exact g p hp
        rw [List.map_map] at z
        exact z
      · show ((!Sl.isOwn (.oI xa (He.ga K "Sheet") [] []) || _) && ((!Sl.isOwn (.oL a (ps.map rowP)) || _) && ((!s2.isOwn || _) && ((!s3.isOwn || _) && ((!s4.isOwn || _) && ((!s5.isOwn || _) && ((!s6.isOwn || _) && true))))))) = true
        rw [o2, o3, o4, o5, o6]; rfl
      · exact ⟨rfl, by simp, by decide, _, _, rfl, rfl, q⟩
end
end K20
set_option Elab.async false
set_option linter.all false
set_option maxRecDepth 100000
set_option maxHeartbeats 4000000
namespace K20
open PySem PySem.Spec PyProof.Rows L2 DL
section
variable {P : Program} {w : World} {K : PySem.W.Frag} {mg : Str → Option Value} {base : Heap}
def tHeard (C : Addr) : TF := fun rs Q => ∃ (cs : List Col) (d : D), rs = [.dt (sheetD C cs), .dt d] ∧ AskC C d ∧ (∀ (k : Nat) (c : Col), d = .int (k : Nat) → cs[k]? = some c → Q (.dt (.tup [.str "told", c.d]))) ∧ (isAt d cs.length = false → Q (.dt (.tup [.str "none", d])))
abbrev C_heard (P : Program) (w : World) (K : PySem.W.Frag) (mg : Str → Option Value) (base : Heap) : Prop := FnX P w K mg base 60 "_law_heard" 2 (tHeard (He.ga K "Sheet"))
theorem ok_heard (T : Tx K mg) (D0 : Dfn K mg "_law_heard" s__law_heard ["_law_sheet_here", "_law_at"]) (m_Sheet___getitem__ : M_get P w K mg base) : C_heard P w K mg base := by
  refine FnX.of (k := 59) D0 sc__law_heard rfl (fun rs Q Q' ⟨c, d, a, b, q1, q2⟩ w => ⟨c, d, a, b, fun k x y z => w _ (q1 k x y z), fun z => w _ (q2 z)⟩) (fun rs Q ⟨c, d, a, _⟩ => by rw [a]; rfl) fun f cdv A outer s H E hr => ⟨_, (pds_one (pds_tryC rfl rfl sc__law_heard.nd (fun pn xe po => (pds_one (pds_retE (pde_tup (pd_c pe_str fun _ => .str _) (pde_ixO m_Sheet___getitem__ T.o_Sheet.fi (hr.mono (by omega)) (pd_var (pv 0)) (pd_var (pv 1))))))) (cl_named (i := 2) rfl rfl ⟨by rfl, by decide, .inl T.g_NoColumn⟩ (fun a oe cls d pn hz hf => (pds_one (pds_ret (pd_tup (pda_cons (pd_c pe_str fun _ => .str _) (pda_cons (pd_xf T.x_NoColumn.xf T.x_NoColumn.no hz hf (pv 2)) pda_nil)))))) (cl_bare ⟨by rfl, by decide, .inl T.g_SheetError⟩ (fun a oe cls d pn hz hf => (pds_one (pds_ret (pd_tup (pda_cons (pd_c pe_str fun _ => .str _) (pda_cons (pd_c pe_non fun _ => .non) pda_nil)))))) ClsD.nil)))), fun rs Q h => ?_⟩
  obtain ⟨cs, d, rfl, ha, q1, q2⟩ := h
  refine ⟨rfl, cs, d, rfl, ha, fun k c e1 e2 => q1 k c e1 e2, fun e => ?_⟩
  refine ⟨true, T.e_NoColumn_NoColumn, fun _ a dd => ?_, (fun z => nomatch z)⟩
  exact ⟨rfl, rfl, rfl, rfl, _, rfl, le_szL rfl, q2 e⟩
theorem whole_vl {p : Str} {f : Fm} (h : WholeF p f) : Vl f.d := ⟨whole_it h, ok_nod _ h.ok⟩
theorem good_dx {c : Col} (g : c.Good) : Dx 1800010 21 c.d := (dx_tup (xs := [c.h.d, c.b.d, c.f.d]) fun x hx => by
  simp only [List.mem_cons, List.not_mem_nil, or_false] at hx
  rcases hx with rfl | rfl | rfl
  · exact (whole_vl g.h).dx
  · exact (whole_vl g.b).dx
  · exact (whole_vl g.f).dx).mono (by show (600000 + 2) * 3 + 3 ≤ _; omega) (Nat.le_refl _)
theorem goods_dx {cs : List Col} (h : ∀ c ∈ cs, c.Good) (hl : cs.length ≤ 8) : Dx 14400100 22 (.lst (cs.map Col.d)) := by
  refine (dx_lst (c := 1800010) (h := 21) fun x hx => ?_).mono ?_ (Nat.le_refl _)
  · obtain ⟨c, hc, rfl⟩ := List.mem_map.mp hx
    exact good_dx (h c hc)
  · rw [List.length_map]; omega
theorem cols_same {cs : List Col} (h : ∀ c ∈ cs, c.Good) (hl : cs.length ≤ 8) : SameE (.lst (cs.map Col.d)) (.lst (cs.map Col.d)) := (goods_dx h hl).same rfl (by have := sizeLine_eq; omega) (by decide)
theorem int_same {i : Int} (h : i.natAbs < 10 ^ 78) : SameE (.int i) (.int i) := ⟨rfl, .inr ⟨i, rfl, h⟩⟩
theorem word_dx {z : Str} {h : Nat} (e : ndB 1000 0 0 (.str z) = true) : Dx 1000 h (.str z) := ⟨⟨(ndB_ok e).plain, (ndB_ok e).small, (ndB_ok e).cost, Nat.le_trans (ndB_ok e).dep (Nat.zero_le _)⟩, rfl⟩
theorem none_same {d : D} (h : Vl d) : SameE (.tup [.str "none", d]) (.tup [.str "none", d]) := (dx_two (word_dx (by decide +kernel)) h.dx).same rfl (by have := sizeLine_eq; omega) (by decide)
theorem told_same {c : Col} (g : c.Good) : SameE (.tup [.str "told", c.d]) (.tup [.str "told", c.d]) := (dx_two (word_dx (by decide +kernel)) (good_dx g)).same rfl (by have := sizeLine_eq; omega) (by decide)
def tRight (C : Addr) : TF := fun rs Q => ∃ cs : List Col, rs = [.bag, .dt (sheetD C cs), .dt (.lst (cs.map Col.d))] ∧ cs.length ≤ 8 ∧ (∀ c ∈ cs, c.Good) ∧ Q (.dt (.bl true))
abbrev C_right (P : Program) (w : World) (K : PySem.W.Frag) (mg : Str → Option Value) (base : Heap) : Prop := FnXG P w K mg base 62 "_law_right" 3 (tRight (He.ga K "Sheet"))
theorem ok_right (T : Tx K mg) (D0 : Dfn K mg "_law_right" s__law_right ["_law_bag_here", "_law_sheet_here", "_law_due"]) (c__law_take : CTake P w K mg base) (c__law_odd : COddV P w K mg base) (c__law_is_whole : C__law_is_whole P w K mg base) (c__law_heard : C_heard P w K mg base) (c__law_alike : CAlikeS P w K mg base) (m_Sheet_columns : M_columns P w K mg base) (m_Sheet___len__ : M_len P w K mg base) : C_right P w K mg base := by
  refine FnXG.of (k := 61) D0 sc__law_right rfl (fun rs Q Q' ⟨c, a, b, d, q⟩ w => ⟨c, a, b, d, w _ q⟩) (fun rs Q ⟨c, a, _⟩ => by rw [a]; rfl) fun f cdv A outer s H E gd hr => ⟨_, (pds_cons (pds_for PassesOwn.never rfl (pdi_rng1 (by rfl) T.b_range (pda_cons (pd_c pe_int fun _ => .int _) pda_nil)) (pdg_name (pg_name (i := 3) sc__law_right.nd rfl (Or.inl rfl))) (pds_cons (pds_set (i := 4) sc__law_right.nd rfl (Or.inl rfl) (pd_meth0 m_Sheet_columns (hr.mono (by omega)) (pd_var (pv 1))))
      (pds_cons (pds_if (pdt_thaw (PDW.t (pdw_or (pdt_not (pdt_b (pd_isi .list (by rfl) T.b_isinstance (by rfl) T.b_list boot_listT (pd_var (pv 4))))) (pdw_or (pdt_not (pdt_b (pd_fnG c__law_alike gd (hr.mono (by omega)) (by rfl) (pda_cons (pd_var (pv 4)) (pda_cons (pd_var (pv 2)) pda_nil))))) (pdw_or1 (pdt_not (pdt_b (pd_fnG c__law_alike gd (hr.mono (by omega)) (by rfl) (pda_cons (pd_lenO m_Sheet___len__ (hr.mono (by omega)) (by rfl) T.b_len (pda_cons (pd_var (pv 1)) pda_nil)) (pda_cons (pd_lenV (by rfl) T.b_len (pdv_var (pv 2))) pda_nil)))))))))) (pds_one (pds_ret (pd_c pe_bl fun _ => .bl _))) pds_nil)
      (pds_one (pds_app (pv 4) (pd_c pe_non fun _ => .non))))))
      (pds_cons (pds_for PassesOwn.never rfl (pdi_over (pd_add (pd_listR rfl (by rfl) T.b_list (by rfl) T.b_range (pd_lenV (by rfl) T.b_len (pdv_var (pv 2)))) (pd_lst (pda_cons (pd_neg (pd_c pe_int fun _ => .int _)) (pda_cons (pd_lenV (by rfl) T.b_len (pdv_var (pv 2))) (pda_cons (pd_c pe_bl fun _ => .bl _) (pda_cons (pd_c pe_bl fun _ => .bl _) (pda_cons (pd_c pe_non fun _ => .non) (pda_cons (pd_c pe_str fun _ => .str _) (pda_cons (pd_tup (pda_cons (pd_c pe_int fun _ => .int _) pda_nil)) (pda_cons (pd_lst pda_nil) (pda_cons (pd_pow (pd_c pe_int fun _ => .int _) (pd_c pe_int fun _ => .int _)) (pda_cons (pd_fn c__law_odd (hr.mono (by omega)) (by rfl) (pda_cons (pd_var (pv 0)) pda_nil)) pda_nil))))))))))))) (pdg_name (pg_name (i := 5) sc__law_right.nd rfl (Or.inl rfl))) (pds_cons (pds_set (i := 6) sc__law_right.nd rfl (Or.inl rfl) (pd_and (pd_fn c__law_is_whole (hr.mono (by omega)) (by rfl) (pda_cons (pd_var (pv 5)) pda_nil)) (pd_one (pd_chain op_le op_lt mono_fLe mono_fLt (opS_I0 fun _ _ _ => .bl _) (opS_I0 fun _ _ _ => .bl _) (pd_c pe_int fun _ => .int _) (pd_var (pv 5)) (pd_lenV (by rfl) T.b_len (pdv_var (pv 2)))))))
      (pds_one (pds_if (pdt_thaw (pdt_not (pdt_b (pd_fnG c__law_alike gd (hr.mono (by omega)) (by rfl) (pda_cons (pd_fn c__law_heard (hr.mono (by omega)) (by rfl) (pda_cons (pd_var (pv 1)) (pda_cons (pd_var (pv 5)) pda_nil))) (pda_cons (pd_if (pdt_thaw (pdt_tru (pd_var (pv 6)))) (pd_tup (pda_cons (pd_c pe_str fun _ => .str _) (pda_cons (pd_ixV (pdv_var (pv 2)) (pdv_var (pv 5)) (fun _ _ => rfl)) pda_nil))) (pd_tup (pda_cons (pd_c pe_str fun _ => .str _) (pda_cons (pd_var (pv 5)) pda_nil)))) pda_nil)))))) (pds_one (pds_ret (pd_c pe_bl fun _ => .bl _))) pds_nil))))
      (pds_one (pds_ret (pd_c pe_bl fun _ => .bl _))))), fun rs Q h => ?_⟩
  obtain ⟨cs, rfl, hl, gc, q⟩ := h
  have z1 := sizeLine_eq
  refine ⟨by decide, by decide, ?_⟩
  refine forD_N (fun δ => ∃ s3 s4, δ = [.bag, .dt (sheetD (He.ga K "Sheet") cs), .dt (.lst (cs.map Col.d)), s3, s4, .no, .no]) ?_ ?_ _ _ ⟨.no, .no, rfl⟩
  · rintro d δ N hN ⟨s3, s4, rfl⟩
    refine ⟨rfl, by decide, cs, rfl, by omega, ?_⟩
    refine ⟨rfl, ?_⟩
    refine if_no rfl ?_
    refine ⟨cols_same gc hl, ?_⟩
    refine if_no rfl ?_
    refine ⟨rfl, cs, rfl, _, rfl, by omega, by omega, ?_⟩
    have ln : ((cs.map Col.d).length : Int) = (cs.length : Int) := by rw [List.length_map]
    refine ⟨?_, ?_⟩
    · rw [ln]; exact int_same (by omega)
    refine if_no rfl ?_
    refine ⟨by rw [List.length_map]; omega, ?_⟩
    exact hN _ ⟨_, _, rfl⟩
  · rintro δ ⟨s3, s4, rfl⟩
    have ln : ((cs.map Col.d).length : Int) = (cs.length : Int) := by rw [List.length_map]
    refine ⟨⟨by decide, by decide, by omega, by omega, by omega⟩, ?_⟩
    refine ⟨le_szL rfl, le_szL rfl, ⟨by decide, by decide, by decide⟩, ?_⟩
    intro y hy
    refine ⟨le_szL rfl, ?_⟩
    have zl : (zs 0 ((((cs.map Col.d).length : Nat) : Int)).toNat).length = cs.length := by rw [zs_len, List.length_map]; rfl
    refine ⟨by rw [zl]; show cs.length + 10 ≤ _; omega, ?_⟩
    have vals : ∀ x ∈ zs 0 ((((cs.map Col.d).length : Nat) : Int)).toNat ++ [D.int (-1), .int (((cs.map Col.d).length : Nat) : Int), .bl true, .bl false, .non, .str "0", .tup [.int 0], .lst [], .int (10 ^ Int.toNat 40), y], Vl x := by
      refine vl_app (fun z hz => ?_) (vl_cons (vlB_ok (by decide +kernel)) (vl_cons (vl_int (by rw [List.length_map]; omega)) (vl_app (xs := [_, _, _, _, _, _, _]) (vlB_all (by decide +kernel)) (vl_cons hy fun z hz => (List.not_mem_nil hz).elim))))
      obtain ⟨i, hi⟩ := List.getElem?_of_mem hz
      obtain ⟨h1, rfl⟩ := zs_get _ _ _ _ hi
      rw [List.length_map] at h1
      exact vl_int (by omega)
    refine forD_L (fun ds δ => (∀ x ∈ ds, Vl x) ∧ ∃ s5 s6, δ = [.bag, .dt (sheetD (He.ga K "Sheet") cs), .dt (.lst (cs.map Col.d)), s3, s4, s5, s6]) ?_ ?_ _ _ ⟨vals, .no, .no, rfl⟩
    · rintro d ds δ N ⟨hv, s5, s6, rfl⟩ hN
      have vd := hv d List.mem_cons_self
      have nx : ∀ s6, N [.bag, .dt (sheetD (He.ga K "Sheet") cs), .dt (.lst (cs.map Col.d)), s3, s4, .dt d, s6] := fun s6 => hN _ ⟨fun x hx => hv x (List.mem_cons_of_mem _ hx), _, _, rfl⟩
      have ask : AskC (He.ga K "Sheet") d := .inl vd.it.plain
      refine ⟨vd.it.plain, ?_⟩
      cases d with
      | int a =>
        refine if_yes rfl ?_
        refine if_both (a := decide (0 ≤ a)) (fun e1 => ?_) fun e1 => ?_
        · refine ⟨cs, _, rfl, ask, fun k c e2 e3 => ?_, fun e2 => ?_⟩
          · obtain rfl : a = (k : Int) := by injection e2
            have hk : k < cs.length := (List.getElem?_eq_some_iff.mp e3).1
            refine if_yes (a := decide ((k : Int) < (((cs.map Col.d).length : Nat) : Int))) (decide_eq_true (by rw [ln]; omega)) ?_
            refine ⟨_, atI_of (j := k) rfl (by rw [List.getElem?_map, e3]; rfl), le_szL rfl, ?_⟩
            refine ⟨told_same (gc c (List.mem_of_getElem? e3)), ?_⟩
            exact nx _
          · have e3 : (decide (0 ≤ a) && decide (a < (cs.length : Int))) = false := e2
            rw [e1, Bool.true_and, ← ln] at e3
            refine if_no (a := decide (a < (((cs.map Col.d).length : Nat) : Int))) e3 ?_
            refine ⟨le_szL rfl, ?_⟩
            refine ⟨none_same vd, ?_⟩
            exact nx _
        · refine ⟨cs, _, rfl, ask, fun k c e2 e3 => ?_, fun e2 => ?_⟩
          · obtain rfl : a = (k : Int) := by injection e2
            rw [decide_eq_false_iff_not] at e1; omega
          · refine ⟨le_szL rfl, ?_⟩
            refine ⟨none_same vd, ?_⟩
            exact nx _
      | _ =>
        refine ⟨cs, _, rfl, ask, (fun k c e _ => nomatch e), fun _ => ?_⟩
        refine ⟨le_szL rfl, ?_⟩
        refine ⟨none_same vd, ?_⟩
        exact nx _
    · rintro δ ⟨_, s5, s6, rfl⟩
      exact q
end
end K20
set_option Elab.async false
set_option linter.all false
set_option maxRecDepth 100000
set_option maxHeartbeats 4000000
namespace K20
open PySem PySem.Spec PyProof.Rows L2 DL
theorem eqvA_len : ∀ {xs ys : List PyData}, PyData.eqvAll xs ys = true → xs.length = ys.length
  | [], [], _ => rfl
  | x :: xs, y :: ys, h => by
    rw [PyData.eqvAll, Bool.and_eq_true] at h
    rw [List.length_cons, List.length_cons, eqvA_len h.2]
  | [], _ :: _, h => by rw [PyData.eqvAll] at h; cases h
  | _ :: _, [], h => by rw [PyData.eqvAll] at h; cases h
theorem eqvA_at : ∀ {xs ys : List PyData} {i : Nat} {x y : PyData}, PyData.eqvAll xs ys = true → xs[i]? = some x → ys[i]? = some y → PyData.eqv x y = true
  | [], _, i, x, y, _, h1, _ => by simp at h1
  | x :: xs, [], i, _, _, h, _, h2 => by simp at h2
  | x :: xs, y :: ys, 0, _, _, h, h1, h2 => by
    rw [PyData.eqvAll, Bool.and_eq_true] at h
    cases h1; cases h2; exact h.1
  | x :: xs, y :: ys, i + 1, _, _, h, h1, h2 => by
    rw [PyData.eqvAll, Bool.and_eq_true] at h
    exact eqvA_at h.2 (by simpa using h1) (by simpa using h2)
theorem pyA_map : ∀ xs : List D, pyA xs = xs.map py
  | [] => rfl
  | x :: xs => by rw [List.map_cons, ← pyA_map xs]; rfl
theorem eqS_len {cs es : List Col} (h : cs.length ≠ es.length) : eqS cs es = false := by
  cases e : eqS cs es with
  | false => rfl
  | true =>
    have z : PyData.eqvAll (pyA (cs.map Col.d)) (pyA (es.map Col.d)) = true := by
      unfold eqS at e
      rw [← e]; show _ = PyData.eqv (.list _) (.list _); rw [PyData.eqv]
    have := eqvA_len z
    rw [pyA_map, pyA_map, List.length_map, List.length_map, List.length_map, List.length_map] at this
    exact (h this).elim
def _root_.DL.Col.pl (c : Col) : Nat → Fm
  | 0 => c.h
  | 1 => c.b
  | _ => c.f
def _root_.DL.Col.put (c : Col) (f : Fm) : Nat → Col
  | 0 => ⟨f, c.b, c.f⟩
  | 1 => ⟨c.h, f, c.f⟩
  | _ => ⟨c.h, c.b, f⟩
theorem eqS_at {cs es : List Col} {a p : Nat} {c e : Col} (h : eqS cs es = true) (h1 : cs[a]? = some c) (h2 : es[a]? = some e) (hp : p < 3) : PyData.eqv (py (c.pl p).d) (py (e.pl p).d) = true := by
  have z : PyData.eqvAll (pyA (cs.map Col.d)) (pyA (es.map Col.d)) = true := by
    unfold eqS at h
    rw [← h]; show _ = PyData.eqv (.list _) (.list _); rw [PyData.eqv]
  have y : PyData.eqv (py c.d) (py e.d) = true := eqvA_at (i := a) z (by rw [pyA_map, List.getElem?_map, List.getElem?_map, h1]; rfl) (by rw [pyA_map, List.getElem?_map, List.getElem?_map, h2]; rfl)
  have x : PyData.eqvAll [py c.h.d, py c.b.d, py c.f.d] [py e.h.d, py e.b.d, py e.f.d] = true := by
    rw [← y]; show _ = PyData.eqv (.tuple _) (.tuple _); rw [PyData.eqv]; rfl
  match p, hp with
  | 0, _ => exact eqvA_at (i := 0) x rfl rfl
  | 1, _ => exact eqvA_at (i := 1) x rfl rfl
  | 2, _ => exact eqvA_at (i := 2) x rfl rfl
theorem num_no {f : Fm} (h : PyData.eqv (py f.d) (py (.tup [.str "number", .int 77])) = true) : PyData.eqv (py f.d) (py (.tup [.str "empty"])) = false := by
  obtain ⟨s, xs, e⟩ := fd_tup f
  rw [e] at h ⊢
  cases q : PyData.eqv (py (.tup (.str s :: xs))) (py (.tup [.str "empty"])) with
  | false => rfl
  | true =>
    have h1 : PyData.eqvAll (pyA (.str s :: xs)) (pyA [.str "number", .int 77]) = true := by rw [← h]; show _ = PyData.eqv (.tuple _) (.tuple _); rw [PyData.eqv]
    have h2 : PyData.eqvAll (pyA (.str s :: xs)) (pyA [.str "empty"]) = true := by rw [← q]; show _ = PyData.eqv (.tuple _) (.tuple _); rw [PyData.eqv]
    have l1 := eqvA_len h1
    have l2 := eqvA_len h2
    rw [l1] at l2
    cases l2
def newF (f : Fm) : Fm := if (!PyData.eqv (py f.d) (py (.tup [.str "number", .int 77]))) = true then .num 77 else .emp
theorem newF_no (f : Fm) : PyData.eqv (py f.d) (py (newF f).d) = false := by
  unfold newF
  cases h : PyData.eqv (py f.d) (py (.tup [.str "number", .int 77])) with
  | false =>
    have e : (if (!false) = true then Fm.num 77 else Fm.emp) = .num 77 := rfl
    rw [e, Fm.d]; exact h
  | true =>
    have e : (if (!true) = true then Fm.num 77 else Fm.emp) = .emp := rfl
    rw [e, Fm.d]; exact num_no h
theorem put_no {cs : List Col} {a p : Nat} {c : Col} (hc : cs[a]? = some c) (hp : p < 3) : eqS cs (cs.set a (c.put (newF (c.pl p)) p)) = false ∧ eqS (cs.set a (c.put (newF (c.pl p)) p)) cs = false := by
  have ha : a < cs.length := (List.getElem?_eq_some_iff.mp hc).1
  have hs : (cs.set a (c.put (newF (c.pl p)) p))[a]? = some (c.put (newF (c.pl p)) p) := List.getElem?_set_self ha
  have pp : (c.put (newF (c.pl p)) p).pl p = newF (c.pl p) := by
    match p, hp with
    | 0, _ => rfl
    | 1, _ => rfl
    | 2, _ => rfl
  have no := newF_no (c.pl p)
  refine ⟨?_, ?_⟩
  · cases e : eqS cs (cs.set a (c.put (newF (c.pl p)) p)) with
    | false => rfl
    | true =>
      have z := eqS_at e hc hs hp
      rw [pp, no] at z; cases z
  · cases e : eqS (cs.set a (c.put (newF (c.pl p)) p)) cs with
    | false => rfl
    | true =>
      have z := eqS_at e hs hc hp
      rw [pp, PySem.W.eqv_comm, no] at z; cases z
theorem comp_row {i : Nat} {te : TD} {δw : List Sl} : ∀ (cs : List Col) (acc : List D) (Q : List D → Prop),
    (∀ c ∈ cs, ∀ (C : Sl → List Sl → Prop), (∀ b r, fz r = some (rowP (b, c)) → C r (δw.set i (.dt c.d))) → te (δw.set i (.dt c.d)) C) →
    (∀ ps : List (Bool × Col), ps.map (·.2) = cs → Q (acc ++ ps.map rowP)) → compD (gdName i) tdYes te δw (cs.map Col.d) acc Q
  | [], acc, Q, _, h => by
    have z := h [] rfl
    rw [List.map_nil, List.append_nil] at z
    exact z
  | c :: cs, acc, Q, he, h => by
    refine ⟨rfl, ?_⟩
    rw [if_pos rfl]
    refine he c List.mem_cons_self _ fun b r er => ⟨rfl, ?_⟩
    rw [er]
    refine comp_row cs _ Q (fun x hx => he x (List.mem_cons_of_mem _ hx)) fun ps e => ?_
    have z := h ((b, c) :: ps) (by rw [List.map_cons, e])
    rw [List.append_assoc]
    exact z
theorem put_d {c : Col} {f : Fm} {p : Nat} (hp : p < 3) : (c.put f p).d = .tup (([c.h.d, c.b.d, c.f.d].take p ++ [f.d]) ++ [c.h.d, c.b.d, c.f.d].drop (p + 1)) := by
  match p, hp with
  | 0, _ => rfl
  | 1, _ => rfl
  | 2, _ => rfl
theorem put_map {cs : List Col} {a p : Nat} {c : Col} {f : Fm} (ha : a < cs.length) (hp : p < 3) : ((cs.map Col.d).take a ++ [DL.D.tup (([c.h.d, c.b.d, c.f.d].take p ++ [f.d]) ++ [c.h.d, c.b.d, c.f.d].drop (p + 1))]) ++ (cs.map Col.d).drop (a + 1) = (cs.set a (c.put f p)).map Col.d := by
  rw [List.set_eq_take_append_cons_drop, if_pos ha, List.map_append, List.map_cons, put_d hp, List.map_take, List.map_drop, List.append_assoc]
  rfl
theorem newF_gf {f : Fm} {p : Str} : WholeF p (newF f) := by
  unfold newF
  split
  · exact .inr ((gf_num (by decide)).mono (by decide))
  · exact .inr (gf_emp.mono (by decide))
theorem put_good {c : Col} {f : Fm} {p : Nat} (g : c.Good) : (c.put (newF f) p).Good := by
  match p with
  | 0 => exact ⟨newF_gf, g.b, g.f⟩
  | 1 => exact ⟨g.h, newF_gf, g.f⟩
  | p + 2 => exact ⟨g.h, g.b, newF_gf⟩
theorem fNe_fd {f : Fm} {e : List DL.D} {δ : List Sl} {Q : QD} (s1 : SeqAt.shaped (py f.d) = true) (s2 : SeqAt.shaped (py (.tup e)) = true) (q : Q (.dt (.bl (!PyData.eqv (py f.d) (py (.tup e))))) δ) : fNe f.d (.tup e) δ Q := by
  obtain ⟨s, xs, e⟩ := fd_tup f
  rw [e] at s1 q ⊢
  exact ⟨s1, s2, q⟩
theorem pl_good {c : Col} {p : Nat} (g : c.Good) : ∃ w, WholeF w (c.pl p) := by
  match p with
  | 0 => exact ⟨_, g.h⟩
  | 1 => exact ⟨_, g.b⟩
  | p + 2 => exact ⟨_, g.f⟩
theorem seq_nx {u : TDS} {D : EndsD} {δ : List Sl} (h : u D δ) : tdSeq EndsD.nx u D δ := h
theorem junk11 {J : List Sl} (h : J.length = 11) : ∃ a2 a3 a4 a5 a6 a7 a8 a9 a10 a11 a12, J = [a2, a3, a4, a5, a6, a7, a8, a9, a10, a11, a12] := by
  match J, h with
  | [a2, a3, a4, a5, a6, a7, a8, a9, a10, a11, a12], _ => exact ⟨_, _, _, _, _, _, _, _, _, _, _, rfl⟩
theorem hds_all : ∀ {δ : List Sl}, (∀ s ∈ δ, s.isHd = false) → hdsOf δ = []
  | [], _ => rfl
  | s :: δ, h => by rw [hds_cons (h s List.mem_cons_self)]; exact hds_all fun t ht => h t (List.mem_cons_of_mem _ ht)
theorem rows_len {ps : List (Bool × Col)} {cs : List Col} (e : ps.map (·.2) = cs) : ps.length = cs.length := by rw [← e, List.length_map]
theorem cols_ne {cs : List Col} {c : Col} : DL.D.lst (cs.map Col.d) ≠ .lst [c.h.d, c.b.d, c.f.d] := fun h => by
  cases cs with
  | nil => cases h
  | cons c0 cs =>
    rw [List.map_cons] at h
    obtain ⟨xs, e1⟩ := cd_tup c0
    obtain ⟨s, ys, e2⟩ := fd_tup c.h
    obtain ⟨s3, zs, e3⟩ := fd_tup c0.h
    injection h with h
    injection h with h
    rw [e1, e2, e3] at h
    injection h with h
    injection h with h
    cases h
theorem row_cases2 {ps : List (Bool × Col)} {d : DL.D} (h : d ∈ ps.map rowP) : ∃ p ∈ ps, (d = .lst [p.2.h.d, p.2.b.d, p.2.f.d] ∨ d = .tup [p.2.h.d, p.2.b.d, p.2.f.d]) := by
  obtain ⟨⟨b, c⟩, hp, rfl⟩ := List.mem_map.mp h
  refine ⟨_, hp, ?_⟩
  cases b with
  | true => exact .inl rfl
  | false => exact .inr rfl
theorem fd_tpA {c : Col} (g : c.Fine) : tupDA [c.h.d, c.b.d, c.f.d] = true := by
  show (tupD c.h.d && (tupD c.b.d && (tupD c.f.d && true))) = true
  rw [ok_tp _ g.h.ok, ok_tp _ g.b.ok, ok_tp _ g.f.ok]; rfl
section
variable {P : Program} {w : World} {K : PySem.W.Frag} {mg : Str → Option Value} {base : Heap}
theorem law_rest0 (T : Tx K mg) (c__law_take : CTake P w K mg base) (c__law_alike : CAlikeS P w K mg base) (c__law_sheet : C__law_sheet P w K mg base) (c__law_right : C_right P w K mg base) (c__law_heard : C_heard P w K mg base) (i_Sheet : I_SheetS P w K mg base) (io_Sheet : I_SheetO P w K mg base) (m_Sheet___eq__ : M_eq P w K mg base)
    {f : Addr} {cdv : Value} {A : Around} {outer : List Env} {s : Shared} {H : Hp} {E : XK} (gd : Ng A) (hr : Room 149 (A.deeper (envOfC "law" (defScope s_law) s.heap.objs.size f cdv))) :
    ∃ tR, PDYs (cxOf CX0 P w K mg base ["_law_script", "_law_bag_here", "_law_turn", "_law_due", "_law_given", "_law_one_here", "_law_sheet_here", "_law_twin", "_law_found", "_law_at", "_law_place", "_law_formula_here", "_law_other"] "law" (defScope s_law) f cdv A outer s H E).nox ((defBody s_law).drop 1) tR ∧
      tR { nx := fun _ => False, rt := fun r _ => r = .dt (.bl true) } ((List.replicate (["_law_script", "_law_bag_here", "_law_turn", "_law_due", "_law_given", "_law_one_here", "_law_sheet_here", "_law_twin", "_law_found", "_law_at", "_law_place", "_law_formula_here", "_law_other"]).length Sl.no).set 1 .bag) := by
  refine ⟨_, (show PDYs _ (_ :: _ :: []) _ from (pdys_cons (pdy_for PassesOwn.never rfl (by rfl) T.b_range (pda_cons (pd_c pe_int fun _ => .int _) pda_nil) (pdg_name (pg_name (i := 2) sc_law.nd rfl (Or.inl rfl))) (pdys_cons (pdy_of (pds_set (i := 3) sc_law.nd rfl (Or.inl rfl) (pd_fn c__law_sheet (hr.mono (by omega)) (by rfl) (pda_cons (pd_var (pv 1)) (pda_cons (pd_c pe_int fun _ => .int _) pda_nil)))))
      (pdys_cons (pdy_of (pds_setLc (i := 4) rfl sc_law.nd rfl rfl (sw_true rfl rfl rfl (by decide +kernel)) (pdi_over (pd_var (pv 3))) (blkOk_by (own := [("_law_one_here", 5)]) (N := ["_law_script", "_law_bag_here", "_law_turn", "_law_due", "_law_given", "_law_one_here", "_law_sheet_here", "_law_twin", "_law_found", "_law_at", "_law_place", "_law_formula_here", "_law_other"]) (sc := defScope s_law) (by decide +kernel)) rfl (fun _ _ _ _ _ => (pdg_name (pg_name (i := 5) sc_law.nd rfl (Or.inl rfl)))) (fun _ _ _ _ _ => pdts_nil) (fun _ _ _ _ _ => (pd_if (pdt_thaw (pdt_eq hr.units (pd_fn c__law_take (hr.mono (by omega)) (by rfl) (pda_cons (pd_var (pv 1)) (pda_cons (pd_c pe_int fun _ => .int _) pda_nil))) (pd_c pe_int fun _ => .int _))) (pd_listV (by rfl) T.b_list (pdv_var (pv 5))) (pd_var (pv 5))))))
      (pdys_cons (pdy_of (pds_parME (i := 6) (j := 7) rfl sc_law.nd rfl rfl (by decide) rfl rfl (pdm_newO io_Sheet (hr.mono (by omega)) (by rfl) (pv 4)) (pd_new i_Sheet (hr.mono (by omega)) (by rfl) (pda_cons (pd_tupleV (by rfl) T.b_tuple (pdv_var (pv 3))) pda_nil)) (by rfl)))
      (pdys_junk (i := 4) (j := 5) [2, 8, 12, 9, 10, 11] PassesOwn.never rfl (pv 4) (pg_name (i := 5) sc_law.nd rfl (Or.inl rfl)) (pks_isl (by rfl) T.b_isinstance (by rfl) T.b_list boot_listT (pv 5) (pjs_cons (pj_put0 (pv 5) pe_int pe_non) (pjs_one (pj_app (pv 5) pe_non)))) (pv 4) pe_non (pdys_of (pds_cons (pds_if (pdt_thaw (PDW.t (pdw_or (pdt_not (pdt_b (pd_fnG c__law_right gd (hr.mono (by omega)) (by rfl) (pda_cons (pd_var (pv 1)) (pda_cons (pd_var (pv 6)) (pda_cons (pd_var (pv 3)) pda_nil)))))) (pdw_or1 (pdt_not (pdt_b (pd_fnG c__law_right gd (hr.mono (by omega)) (by rfl) (pda_cons (pd_var (pv 1)) (pda_cons (pd_var (pv 7)) (pda_cons (pd_var (pv 3)) pda_nil)))))))))) (pds_one (pds_ret (pd_c pe_bl fun _ => .bl _))) pds_nil)
      (pds_cons (pds_set (i := 8) sc_law.nd rfl (Or.inl rfl) (pd_lst (pda_cons (pd_eqA (T.o_Sheet.ic T.k_Sheet) T.s_Sheet m_Sheet___eq__ (hr.mono (by omega)) (pd_var (pv 6)) (pd_var (pv 7))) (pda_cons (pd_eqA (T.o_Sheet.ic T.k_Sheet) T.s_Sheet m_Sheet___eq__ (hr.mono (by omega)) (pd_var (pv 7)) (pd_var (pv 6))) (pda_cons (pd_neA (T.o_Sheet.ic T.k_Sheet) T.s_Sheet m_Sheet___eq__ T.o_Sheet.ne (hr.mono (by omega)) (pd_var (pv 6)) (pd_var (pv 7))) pda_nil)))))
      (pds_cons (pds_set (i := 8) sc_law.nd rfl (Or.inl rfl) (pd_addV (pdv_var (pv 8)) (pdv_of (pd_lst (pda_cons (pd_eqA (T.o_Sheet.ic T.k_Sheet) T.s_Sheet m_Sheet___eq__ (hr.mono (by omega)) (pd_var (pv 6)) (pd_var (pv 3))) (pda_cons (pd_eqA (T.o_Sheet.ic T.k_Sheet) T.s_Sheet m_Sheet___eq__ (hr.mono (by omega)) (pd_var (pv 6)) (pd_c pe_non fun _ => .non)) (pda_cons (pd_eqA (T.o_Sheet.ic T.k_Sheet) T.s_Sheet m_Sheet___eq__ (hr.mono (by omega)) (pd_var (pv 6)) (pd_lenV (by rfl) T.b_len (pdv_var (pv 3)))) pda_nil)))))))
      (pds_cons (pds_if (pdt_thaw (pdt_not (pdt_b (pd_fnG c__law_alike gd (hr.mono (by omega)) (by rfl) (pda_cons (pd_var (pv 8)) (pda_cons (pd_lst (pda_cons (pd_c pe_bl fun _ => .bl _) (pda_cons (pd_c pe_bl fun _ => .bl _) (pda_cons (pd_c pe_bl fun _ => .bl _) (pda_cons (pd_c pe_bl fun _ => .bl _) (pda_cons (pd_c pe_bl fun _ => .bl _) (pda_cons (pd_c pe_bl fun _ => .bl _) pda_nil))))))) pda_nil)))))) (pds_one (pds_ret (pd_c pe_bl fun _ => .bl _))) pds_nil)
      (pds_cons (pds_if (pdt_thaw (PDW.t (pdw_or (pdt_ne hr.units (pd_eqA (T.o_Sheet.ic T.k_Sheet) T.s_Sheet m_Sheet___eq__ (hr.mono (by omega)) (pd_var (pv 6)) (pd_new i_Sheet (hr.mono (by omega)) (by rfl) (pda_cons (pd_rev (pd_var (pv 3))) pda_nil))) (pd_eq hr.units (pd_var (pv 3)) (pd_rev (pd_var (pv 3))))) (pdw_or1 (pdt_neP m_Sheet___eq__ (hr.mono (by omega)) (pd_fn c__law_heard (hr.mono (by omega)) (by rfl) (pda_cons (pd_var (pv 6)) (pda_cons (pd_var (pv 6)) pda_nil))) (pd_tup (pda_cons (pd_c pe_str fun _ => .str _) (pda_cons (pd_var (pv 6)) pda_nil)))))))) (pds_one (pds_ret (pd_c pe_bl fun _ => .bl _))) pds_nil)
      (pds_one (pds_for PassesOwn.never rfl (pdi_rng1 (by rfl) T.b_range (pda_cons (pd_lenV (by rfl) T.b_len (pdv_var (pv 3))) pda_nil)) (pdg_name (pg_name (i := 9) sc_law.nd rfl (Or.inl rfl))) (pds_cons (pds_set (i := 10) sc_law.nd rfl (Or.inl rfl) (pd_fn c__law_take (hr.mono (by omega)) (by rfl) (pda_cons (pd_var (pv 1)) (pda_cons (pd_c pe_int fun _ => .int _) pda_nil))))
      (pds_cons (pds_set (i := 11) sc_law.nd rfl (Or.inl rfl) (pd_if (pdt_thaw (pdt_ne hr.units (pd_ixV (pdv_of (pd_ixV (pdv_var (pv 3)) (pdv_var (pv 9)) (fun _ _ => rfl))) (pdv_var (pv 10)) (fun _ _ => rfl)) (pd_tup (pda_cons (pd_c pe_str fun _ => .str _) (pda_cons (pd_c pe_int fun _ => .int _) pda_nil))))) (pd_tup (pda_cons (pd_c pe_str fun _ => .str _) (pda_cons (pd_c pe_int fun _ => .int _) pda_nil))) (pd_tup (pda_cons (pd_c pe_str fun _ => .str _) pda_nil))))
      (pds_cons (pds_set (i := 12) sc_law.nd rfl (Or.inl rfl) (pd_new i_Sheet (hr.mono (by omega)) (by rfl) (pda_cons (pd_add (pd_add (pd_sliceV (pdv_var (pv 3)) pdo_none (pdo_some (pd_var (pv 9)))) (pd_lst (pda_cons (pd_add (pd_add (pd_slice (pd_ixV (pdv_var (pv 3)) (pdv_var (pv 9)) (fun _ _ => rfl)) pdo_none (pdo_some (pd_var (pv 10)))) (pd_tup (pda_cons (pd_var (pv 11)) pda_nil))) (pd_slice (pd_ixV (pdv_var (pv 3)) (pdv_var (pv 9)) (fun _ _ => rfl)) (pdo_some (pd_addV (pdv_var (pv 10)) (pdv_of (pd_c pe_int fun _ => .int _)))) pdo_none)) pda_nil))) (pd_sliceV (pdv_var (pv 3)) (pdo_some (pd_addV (pdv_var (pv 9)) (pdv_of (pd_c pe_int fun _ => .int _)))) pdo_none)) pda_nil)))
      (pds_one (pds_if (pdt_thaw (PDW.t (pdw_or (pdt_eqA (T.o_Sheet.ic T.k_Sheet) T.s_Sheet m_Sheet___eq__ (hr.mono (by omega)) (pd_var (pv 6)) (pd_var (pv 12))) (pdw_or (pdt_eqA (T.o_Sheet.ic T.k_Sheet) T.s_Sheet m_Sheet___eq__ (hr.mono (by omega)) (pd_var (pv 12)) (pd_var (pv 6))) (pdw_or (pdt_eqA (T.o_Sheet.ic T.k_Sheet) T.s_Sheet m_Sheet___eq__ (hr.mono (by omega)) (pd_var (pv 6)) (pd_new i_Sheet (hr.mono (by omega)) (by rfl) (pda_cons (pd_add (pd_sliceV (pdv_var (pv 3)) pdo_none (pdo_some (pd_var (pv 9)))) (pd_sliceV (pdv_var (pv 3)) (pdo_some (pd_addV (pdv_var (pv 9)) (pdv_of (pd_c pe_int fun _ => .int _)))) pdo_none)) pda_nil))) (pdw_or1 (pdt_not (pdt_neA (T.o_Sheet.ic T.k_Sheet) T.s_Sheet m_Sheet___eq__ T.o_Sheet.ne (hr.mono (by omega)) (pd_var (pv 6)) (pd_var (pv 12)))))))))) (pds_one (pds_ret (pd_c pe_bl fun _ => .bl _))) pds_nil))))))))))))))))))
      (pdys_one (pdy_of (pds_ret (pd_c pe_bl fun _ => .bl _)))))), ?_⟩
  have z1 := sizeLine_eq
  refine ⟨by decide, by decide, ?_⟩
  refine forD_N (fun δ => ∃ J : List Sl, J.length = 11 ∧ (∀ s ∈ J, s.isHd = false) ∧ δ = .no :: .bag :: J) ?_ (fun δ h => rfl) _ _ ⟨List.replicate 11 .no, rfl, fun s hs => by rw [List.eq_of_mem_replicate hs]; rfl, rfl⟩
  rintro d0 δ N hN ⟨J, hJ, hh, rfl⟩
  obtain ⟨a2, a3, a4, a5, a6, a7, a8, a9, a10, a11, a12, rfl⟩ := junk11 hJ
  clear hJ
  have done : ∀ J : List Sl, J.length = 11 → (∀ s ∈ J, s.isHd = false) → N (.no :: .bag :: J) := fun J h h2 => hN _ ⟨J, h, h2, rfl⟩
  have no5 : hdsOf [.no, .bag, a5, a6, a7, a8, a9, a10, a11, a12] = [] := hds_all fun s hs => by
    rcases List.mem_cons.mp hs with rfl | hs
    · rfl
    rcases List.mem_cons.mp hs with rfl | hs
    · rfl
    exact hh s (List.mem_cons_of_mem _ (List.mem_cons_of_mem _ (List.mem_cons_of_mem _ hs)))
  refine ⟨8, rfl, by decide, by decide, fun cs hl gc => ?_⟩
  have hl8 : cs.length ≤ 8 := hl
  have gf : ∀ c ∈ cs, c.Fine := fun c hc => (gc c hc).fine
  refine ⟨by rw [List.length_map]; omega, ?_⟩
  refine comp_row cs _ _ (fun c hc C hC => ?_) fun ps eps => ?_
  · refine ⟨by decide, by decide, fun t t0 t1 => ⟨rfl, rfl, if_both (fun e => ?_) fun e => ?_⟩⟩
    · exact ⟨le_szL rfl, hC true _ rfl⟩
    · exact hC false _ rfl
  rw [List.nil_append]
  have lp := rows_len eps
  have gp : ∀ p ∈ ps, p.2.Fine := fun p hp => gf p.2 (by rw [← eps]; exact List.mem_map.mpr ⟨p, hp, rfl⟩)
  have edp : (ps.map fun p => p.2.d) = cs.map Col.d := by rw [← eps, List.map_map]; rfl
  refine ⟨_, rfl, ps, rfl, by omega, gp, fun xa => ⟨rfl, ?_⟩⟩
  refine ⟨true, cs, rfl, by omega, gf, fun xb => ⟨no5, ?_⟩⟩
  rw [edp]
  have bulk : BulkOk (ps.map rowP) [.no, .bag, .no, .dt (.lst (cs.map Col.d)), .no, .no, .oI xa (He.ga K "Sheet") ["its_columns"] [.lst (cs.map Col.d)], .oI xb (He.ga K "Sheet") ["its_columns"] [.lst (cs.map Col.d)], .no, .no, .no, .no, .no] := by
    have av0 : ∀ (m : DL.D) (fs : List DL.D), (DL.D.lst fs ∈ ps.map rowP ∨ DL.D.tup fs ∈ ps.map rowP) → tupDA fs = true := fun m fs h => by
      rcases h with h | h
      · obtain ⟨p, hp, e | e⟩ := row_cases2 h
        · injection e with e; rw [e]; exact fd_tpA (gp p hp)
        · cases e
      · obtain ⟨p, hp, e | e⟩ := row_cases2 h
        · cases e
        · injection e with e; rw [e]; exact fd_tpA (gp p hp)
    refine ⟨fun d hd => ?_, fun es hes => ⟨fun fs h => tpA_av _ _ (av0 (.lst es) fs (.inl h)), fun fs h => tpA_av _ _ (av0 (.lst es) fs (.inr h)), fun s hs => ?_⟩⟩
    · obtain ⟨p, hp, rfl | rfl⟩ := row_cases2 hd
      · exact .inl ⟨_, rfl, avA_nLk _ (tpA_av .non _ (fd_tpA (gp p hp)))⟩
      · exact .inr ⟨_, rfl⟩
    · obtain ⟨p, hp, e | e⟩ := row_cases2 hes
      · have due : avX (.lst es) (.lst (cs.map Col.d)) := by
          rw [avX, e]
          exact ⟨cols_ne, tpA_av _ _ (cols_tp gf)⟩
        simp only [List.mem_cons, List.not_mem_nil, or_false] at hs
        rcases hs with rfl | rfl | rfl | rfl | rfl | rfl | rfl | rfl | rfl | rfl | rfl | rfl | rfl
        all_goals first | exact trivial | exact due | exact ⟨due, trivial⟩
      · cases e
  refine ⟨ps.map rowP, rfl, by decide, (Nat.le_of_ble_eq_true rfl : 6 ≤ 13), rfl, by rw [List.length_map]; omega, bulk, fun es hes => ?_, ?_⟩
  · obtain ⟨p, hp, e | e⟩ := row_cases2 hes
    · injection e with e
      rw [e, List.length_map]
      exact ⟨Nat.le_of_ble_eq_true rfl, by show 3 + (ps.length + 1) * (0 + 1) < _; omega⟩
    · cases e
  change tdSeq _ _ _ [.no, .bag, .no, .dt (.lst (cs.map Col.d)), .no, .no, .oI xa (He.ga K "Sheet") ["its_columns"] [.lst (cs.map Col.d)], .oI xb (He.ga K "Sheet") ["its_columns"] [.lst (cs.map Col.d)], .no, .no, .no, .no, .no]
  have sh : ShL cs := cols_lay gc
  have ee : eqS cs cs = true := SeqAt.eqv_refl _ (shaped_lay sh)
  refine ⟨cs, rfl, hl8, gc, ?_⟩
  refine if_no rfl ?_
  refine ⟨cs, rfl, hl8, gc, ?_⟩
  refine if_no rfl ?_
  have pl : plainD (.lst (cs.map Col.d)) = true := (goods_dx gc hl8).ct.plain
  have eqI : ∀ {Q : Sl → Prop}, Q (.dt (.bl true)) → tEqX (He.ga K "Sheet") [.dt (sheetD (He.ga K "Sheet") cs), .dt (sheetD (He.ga K "Sheet") cs)] Q := fun {Q} q => ⟨cs, _, rfl, by omega, .inr ⟨cs, rfl, by omega, sh, sh, by rw [ee]; exact q⟩⟩
  have eqP : ∀ {Q : Sl → Prop} {d : DL.D}, plainD d = true → Q (.dt (.bl false)) → tEqX (He.ga K "Sheet") [.dt (sheetD (He.ga K "Sheet") cs), .dt d] Q := fun {Q d} p q => ⟨cs, _, rfl, by omega, .inl ⟨p, q⟩⟩
  refine ⟨rfl, .inr ⟨_, _, rfl⟩, eqI ⟨true, rfl, ?_⟩⟩
  refine ⟨rfl, .inr ⟨_, _, rfl⟩, eqI ⟨true, rfl, ?_⟩⟩
  refine ⟨rfl, .inr ⟨_, _, rfl⟩, eqI ⟨true, rfl, ?_⟩⟩
  refine ⟨le_szL rfl, ?_⟩
  refine ⟨rfl, .inl (plain_ins pl), eqP pl ⟨false, rfl, ?_⟩⟩
  refine ⟨rfl, .inl (plain_ins rfl), eqP rfl ⟨false, rfl, ?_⟩⟩
  refine ⟨rfl, .inl (plain_ins rfl), eqP rfl ⟨false, rfl, ?_⟩⟩
  refine ⟨le_szL rfl, ?_⟩
  refine ⟨Nat.le_of_ble_eq_true rfl, ?_⟩
  refine ⟨le_szL rfl, ?_⟩
  refine ⟨(vlB_ok (d := .lst [.bl true, .bl true, .bl false, .bl false, .bl false, .bl false]) (by decide +kernel)).dx.same rfl (by omega) (by decide), ?_⟩
  refine if_no rfl ?_
  change tdSeq _ _ _ [.no, .bag, .no, .dt (.lst (cs.map Col.d)), .no, .no, .dt (sheetD (He.ga K "Sheet") cs), .dt (sheetD (He.ga K "Sheet") cs), .ol [.bl true, .bl true, .bl false, .bl false, .bl false, .bl false], .no, .no, .no, .no]
  refine seq_nx ?_
  have eqG : ∀ {Q : Sl → Prop} {cs es : List Col}, cs.length ≤ 8 → es.length ≤ 8 → (∀ c ∈ cs, c.Good) → (∀ c ∈ es, c.Good) → Q (.dt (.bl (eqS cs es))) → tEqX (He.ga K "Sheet") [.dt (sheetD (He.ga K "Sheet") cs), .dt (sheetD (He.ga K "Sheet") es)] Q := fun {Q cs es} h1 h2 g1 g2 q => ⟨cs, _, rfl, by omega, .inr ⟨es, rfl, by omega, cols_lay g1, cols_lay g2, q⟩⟩
  refine seq_N (fun δ => δ = [.no, .bag, .no, .dt (.lst (cs.map Col.d)), .no, .no, .dt (sheetD (He.ga K "Sheet") cs), .dt (sheetD (He.ga K "Sheet") cs), .ol [.bl true, .bl true, .bl false, .bl false, .bl false, .bl false], .no, .no, .no, .no]) (fun N1 hN1 => ?_) ?_
  · have fin := hN1 _ rfl
    have er : (cs.map Col.d).reverse = cs.reverse.map Col.d := List.map_reverse.symm
    have gr : ∀ c ∈ cs.reverse, c.Good := fun c hc => gc c (List.mem_reverse.mp hc)
    have eqb : ∀ a : Bool, PyData.eqv (.bool a) (.bool a) = true := fun a => by rw [PyData.eqv]; exact beq_self_eq_true a
    refine ⟨false, cs.reverse, by rw [er]; rfl, by rw [List.length_reverse]; omega, fun c hc => (gr c hc).fine, fun xr => ⟨rfl, .inr ⟨_, _, rfl⟩, eqG hl8 (by rw [List.length_reverse]; exact hl8) gc gr ⟨_, rfl, ?_⟩⟩⟩
    refine ⟨sh, er ▸ cols_lay gr, ?_⟩
    refine ⟨rfl, rfl, ?_⟩
    refine if_no (a := !PyData.eqv (.bool (eqS cs cs.reverse)) (.bool (PyData.eqv (py (.lst (cs.map Col.d))) (py (.lst (cs.map Col.d).reverse))))) (by rw [er]; exact congrArg not (eqb (eqS cs cs.reverse))) ?_
    refine ⟨cs, _, rfl, .inr ⟨_, _, rfl⟩, (fun k c e _ => nomatch e), fun _ => ?_⟩
    refine ⟨le_szL rfl, ?_⟩
    exact ⟨rfl, rfl, rfl, fin, eqI ⟨true, rfl, fin⟩⟩
  rintro δ rfl
  have ln : ((cs.map Col.d).length : Int) = (cs.length : Int) := by rw [List.length_map]
  refine ⟨by omega, by omega, ?_⟩
  have zl : ∀ x ∈ zs 0 ((((cs.map Col.d).length : Nat) : Int)).toNat, ∃ k : Nat, x = .int (k : Int) ∧ k < cs.length := fun x hx => by
    obtain ⟨i, hi⟩ := List.getElem?_of_mem hx
    obtain ⟨h1, rfl⟩ := zs_get _ _ _ _ hi
    rw [List.length_map] at h1
    exact ⟨i, by rw [Int.zero_add], by omega⟩
  refine forD_L (fun ds δ => (∀ x ∈ ds, ∃ k : Nat, x = .int (k : Int) ∧ k < cs.length) ∧ ∃ s9 s10 s11 s12 : Sl, (s9.isHd = false ∧ s10.isHd = false ∧ s11.isHd = false ∧ s12.isHd = false) ∧ δ = [.no, .bag, .no, .dt (.lst (cs.map Col.d)), .no, .no, .dt (sheetD (He.ga K "Sheet") cs), .dt (sheetD (He.ga K "Sheet") cs), .ol [.bl true, .bl true, .bl false, .bl false, .bl false, .bl false], s9, s10, s11, s12]) ?_ ?_ _ _ ⟨zl, .no, .no, .no, .no, ⟨rfl, rfl, rfl, rfl⟩, rfl⟩
  · rintro d ds δ N1 ⟨hv, s9, s10, s11, s12, hs, rfl⟩ hN1
    obtain ⟨k, rfl, hk⟩ := hv d List.mem_cons_self
    have hv2 : ∀ x ∈ ds, ∃ k : Nat, x = .int (k : Int) ∧ k < cs.length := fun x hx => hv x (List.mem_cons_of_mem _ hx)
    obtain ⟨c, hc⟩ : ∃ c, cs[k]? = some c := ⟨_, List.getElem?_eq_getElem hk⟩
    have g := gc c (List.mem_of_getElem? hc)
    refine ⟨by decide, by decide, fun t t0 t1 => ?_⟩
    obtain ⟨p, rfl⟩ : ∃ p : Nat, t = (p : Int) := ⟨t.toNat, by omega⟩
    have hp : p < 3 := by omega
    change tdSeq _ _ _ [.no, .bag, .no, .dt (.lst (cs.map Col.d)), .no, .no, .dt (sheetD (He.ga K "Sheet") cs), .dt (sheetD (He.ga K "Sheet") cs), .ol [.bl true, .bl true, .bl false, .bl false, .bl false, .bl false], .dt (.int (k : Int)), .dt (.int (p : Int)), s11, s12]
    refine seq_nx ?_
    have ec : atI (cs.map Col.d) (k : Int) = some (.tup [c.h.d, c.b.d, c.f.d]) := atI_of (j := k) rfl (by rw [List.getElem?_map, hc]; rfl)
    refine seq_N (fun δ => δ = [.no, .bag, .no, .dt (.lst (cs.map Col.d)), .no, .no, .dt (sheetD (He.ga K "Sheet") cs), .dt (sheetD (He.ga K "Sheet") cs), .ol [.bl true, .bl true, .bl false, .bl false, .bl false, .bl false], .dt (.int (k : Int)), .dt (.int (p : Int)), .dt (newF (c.pl p)).d, s12]) (fun N2 hN2 => ?_) ?_
    · have ep : atI [c.h.d, c.b.d, c.f.d] (p : Int) = some (c.pl p).d := by
        match p, hp with
        | 0, _ => exact atI_of (j := 0) rfl rfl
        | 1, _ => exact atI_of (j := 1) rfl rfl
        | 2, _ => exact atI_of (j := 2) rfl rfl
      refine ⟨_, ec, _, ep, le_szL rfl, ?_⟩
      obtain ⟨w, gw⟩ := pl_good (p := p) g
      refine fNe_fd (gw.bs2.shaped (by decide)) (by decide +kernel) ?_
      have fin := hN2 _ rfl
      unfold newF at fin
      refine if_both (fun e => ?_) fun e => ?_
      · rw [if_pos e, Fm.d] at fin
        exact ⟨le_szL rfl, fin⟩
      · rw [if_neg (by rw [e]; exact Bool.false_ne_true), Fm.d] at fin
        exact ⟨le_szL rfl, fin⟩
    rintro δ rfl
    have lm : (cs.map Col.d).length = cs.length := List.length_map _
    have c1 : ∀ (xs : List DL.D) (q : Nat), cutL xs (some ((q : Int) + 1)) none = xs.drop (q + 1) := fun xs q => by rw [show ((q : Int) + 1) = ((q + 1 : Nat) : Int) by omega]; exact cut_drop
    have eA : (cutL (cs.map Col.d) none (some (k : Int)) ++ [DL.D.tup ((cutL [c.h.d, c.b.d, c.f.d] none (some (p : Int)) ++ [(newF (c.pl p)).d]) ++ cutL [c.h.d, c.b.d, c.f.d] (some ((p : Int) + 1)) none)]) ++ cutL (cs.map Col.d) (some ((k : Int) + 1)) none = (cs.set k (c.put (newF (c.pl p)) p)).map Col.d := by
      rw [cut_take, cut_take, c1, c1]; exact put_map hk hp
    have eB : cutL (cs.map Col.d) none (some (k : Int)) ++ cutL (cs.map Col.d) (some ((k : Int) + 1)) none = (cs.take k ++ cs.drop (k + 1)).map Col.d := by
      rw [cut_take, c1, List.map_append, List.map_take, List.map_drop]
    have lA := congrArg List.length eA
    have lB := congrArg List.length eB
    rw [List.length_append, List.length_append, List.length_singleton, List.length_map, List.length_set] at lA
    have lBx : (cs.take k ++ cs.drop (k + 1)).length = cs.length - 1 := by rw [List.length_append, List.length_take, List.length_drop]; omega
    rw [List.length_append, List.length_map, lBx] at lB
    have l1 : (cutL [c.h.d, c.b.d, c.f.d] none (some (p : Int))).length ≤ 3 := by rw [cut_take, List.length_take]; exact Nat.min_le_right _ _
    have l2 : (cutL [c.h.d, c.b.d, c.f.d] (some ((p : Int) + 1)) none).length ≤ 3 := by rw [c1, List.length_drop]; exact Nat.sub_le _ _
    have gA : ∀ x ∈ cs.set k (c.put (newF (c.pl p)) p), x.Good := fun x hx => by
      rcases List.mem_or_eq_of_mem_set hx with h | rfl
      · exact gc x h
      · exact put_good g
    have gB : ∀ x ∈ cs.take k ++ cs.drop (k + 1), x.Good := fun x hx => by
      rcases List.mem_append.mp hx with h | h
      · exact gc x (List.mem_of_mem_take h)
      · exact gc x (List.mem_of_mem_drop h)
    obtain ⟨n1, n2⟩ := put_no hc hp
    have n3 : eqS cs (cs.take k ++ cs.drop (k + 1)) = false := eqS_len (by rw [lBx]; omega)
    refine ⟨_, ec, le_szL rfl, by rw [List.length_singleton]; omega, _, ec, by rw [List.length_append, List.length_singleton]; omega, le_szL rfl, by rw [List.length_singleton]; omega, by rw [List.length_append, List.length_singleton]; omega, ?_⟩
    refine ⟨false, cs.set k (c.put (newF (c.pl p)) p), by rw [eA]; rfl, by rw [List.length_set]; omega, fun x hx => (gA x hx).fine, fun xc => ?_⟩
    refine ⟨rfl, .inr ⟨_, _, rfl⟩, eqG hl8 (by rw [List.length_set]; exact hl8) gc gA ⟨false, by rw [n1], ?_⟩⟩
    refine ⟨rfl, .inr ⟨_, _, rfl⟩, eqG (by rw [List.length_set]; exact hl8) hl8 gA gc ⟨false, by rw [n2], ?_⟩⟩
    refine ⟨by omega, ?_⟩
    refine ⟨false, cs.take k ++ cs.drop (k + 1), by rw [eB]; rfl, by rw [lBx]; omega, fun x hx => (gB x hx).fine, fun xd => ?_⟩
    refine ⟨rfl, .inr ⟨_, _, rfl⟩, eqG hl8 (by rw [lBx]; omega) gc gB ⟨false, by rw [n3], ?_⟩⟩
    refine ⟨rfl, .inr ⟨_, _, rfl⟩, eqG hl8 (by rw [List.length_set]; exact hl8) gc gA ⟨false, by rw [n1], ?_⟩⟩
    exact hN1 _ ⟨hv2, _, _, _, _, ⟨rfl, rfl, by unfold newF; split <;> rfl, rfl⟩, rfl⟩
  · rintro δ ⟨_, s9, s10, s11, s12, ⟨h9, h10, h11, h12⟩, rfl⟩
    refine done _ rfl fun s hs => ?_
    simp only [List.mem_cons, List.not_mem_nil, or_false] at hs
    rcases hs with rfl | rfl | rfl | rfl | rfl | rfl | rfl | rfl | rfl | rfl | rfl
    all_goals first | rfl | assumption
end
end K20
set_option Elab.async false
set_option linter.all false
set_option maxRecDepth 100000
set_option maxHeartbeats 4000000
namespace K20
open PySem PySem.Spec PyProof.Rows L2 DL
theorem faOk {K : PySem.W.Frag} (c : (fa.all fun f => f.ok K) = true) {f : He.Fa} (i : Nat) (h : fa[i]? = some f := by rfl) : f.ok K = true :=
  List.all_eq_true.mp c f (List.mem_of_getElem? h)
theorem facts {P : Program} {w : World} {K : PySem.W.Frag} {h : Heap} {mg : Str → Option Value} {f : Addr} (X : K.In h) (G : h.Ns mainGlobals mg) (hfa : mg ("law" : Str) = some (.ref f)) (c : SaysX chk fn K) (tl : TabL must K h) :
    ∃ fd : FuncData, (∀ (s : Shared) (v : Value), BindsTo s fd ⟨[v], []⟩ [("_law_script", v)]) ∧ ∀ base : Heap, K.In base → base.Ns mainGlobals mg → (∀ p ∈ codT K, LamX.TabB base mg p.1 p.2) → FnG P w K mg base 150 f fd ["_law_script"] (spLaw K) := by
  have ck := c.yes
  have ck0 : (fa.all fun f => f.ok K) = true := (Bool.and_eq_true_iff.mp (Bool.and_eq_true_iff.mp (Bool.and_eq_true_iff.mp (Bool.and_eq_true_iff.mp (Bool.and_eq_true_iff.mp (Bool.and_eq_true_iff.mp (Bool.and_eq_true_iff.mp (Bool.and_eq_true_iff.mp (Bool.and_eq_true_iff.mp (Bool.and_eq_true_iff.mp (Bool.and_eq_true_iff.mp ck).1).1).1).1).1).1).1).1).1).1).1
  have T : Tx K mg := ⟨He.free_ok X G (faOk ck0 34), He.free_ok X G (faOk ck0 35), He.free_ok X G (faOk ck0 36), He.free_ok X G (faOk ck0 37), He.free_ok X G (faOk ck0 38), He.free_ok X G (faOk ck0 39), He.free_ok X G (faOk ck0 40), He.free_ok X G (faOk ck0 41), He.free_ok X G (faOk ck0 42), He.free_ok X G (faOk ck0 43), He.free_ok X G (faOk ck0 44), He.free_ok X G (faOk ck0 45), He.free_ok X G (faOk ck0 46), He.free_ok X G (faOk ck0 47), He.free_ok X G (faOk ck0 48), He.free_ok X G (faOk ck0 49), He.int_ok X G (faOk ck0 50), He.glo_ok X G (faOk ck0 51), fun G => He.tupB_ok (Bool.and_eq_true_iff.mp (Bool.and_eq_true_iff.mp (Bool.and_eq_true_iff.mp (Bool.and_eq_true_iff.mp (Bool.and_eq_true_iff.mp (Bool.and_eq_true_iff.mp (Bool.and_eq_true_iff.mp (Bool.and_eq_true_iff.mp (Bool.and_eq_true_iff.mp (Bool.and_eq_true_iff.mp (Bool.and_eq_true_iff.mp ck).1).1).1).1).1).1).1).1).1).1).2 G, He.glo_ok X G (faOk ck0 52), fun G => He.tupB_ok (Bool.and_eq_true_iff.mp (Bool.and_eq_true_iff.mp (Bool.and_eq_true_iff.mp (Bool.and_eq_true_iff.mp (Bool.and_eq_true_iff.mp (Bool.and_eq_true_iff.mp (Bool.and_eq_true_iff.mp (Bool.and_eq_true_iff.mp (Bool.and_eq_true_iff.mp (Bool.and_eq_true_iff.mp ck).1).1).1).1).1).1).1).1).1).2 G, He.glo_ok X G (faOk ck0 53), fun G => He.tupB_ok (Bool.and_eq_true_iff.mp (Bool.and_eq_true_iff.mp (Bool.and_eq_true_iff.mp (Bool.and_eq_true_iff.mp (Bool.and_eq_true_iff.mp (Bool.and_eq_true_iff.mp (Bool.and_eq_true_iff.mp (Bool.and_eq_true_iff.mp (Bool.and_eq_true_iff.mp ck).1).1).1).1).1).1).1).1).2 G, He.cls_ok (faOk ck0 54), He.noat_ok (faOk ck0 55), excB_ok (Bool.and_eq_true_iff.mp (Bool.and_eq_true_iff.mp (Bool.and_eq_true_iff.mp (Bool.and_eq_true_iff.mp (Bool.and_eq_true_iff.mp (Bool.and_eq_true_iff.mp (Bool.and_eq_true_iff.mp (Bool.and_eq_true_iff.mp ck).1).1).1).1).1).1).1).2, He.glo_ok X G (faOk ck0 63), He.glo_ok X G (faOk ck0 64), (Bool.and_eq_true_iff.mp ck).2, noTyB_ok (Bool.and_eq_true_iff.mp (Bool.and_eq_true_iff.mp (Bool.and_eq_true_iff.mp (Bool.and_eq_true_iff.mp (Bool.and_eq_true_iff.mp (Bool.and_eq_true_iff.mp ck).1).1).1).1).1).2, noTyB_ok (Bool.and_eq_true_iff.mp (Bool.and_eq_true_iff.mp (Bool.and_eq_true_iff.mp (Bool.and_eq_true_iff.mp (Bool.and_eq_true_iff.mp ck).1).1).1).1).2, noTyB_ok (Bool.and_eq_true_iff.mp (Bool.and_eq_true_iff.mp (Bool.and_eq_true_iff.mp (Bool.and_eq_true_iff.mp ck).1).1).1).2, noTyB_ok (Bool.and_eq_true_iff.mp (Bool.and_eq_true_iff.mp (Bool.and_eq_true_iff.mp ck).1).1).2, noSubB_ok (Bool.and_eq_true_iff.mp (Bool.and_eq_true_iff.mp ck).1).2, ownB_ok (Bool.and_eq_true_iff.mp (Bool.and_eq_true_iff.mp (Bool.and_eq_true_iff.mp (Bool.and_eq_true_iff.mp (Bool.and_eq_true_iff.mp (Bool.and_eq_true_iff.mp (Bool.and_eq_true_iff.mp ck).1).1).1).1).1).1).2, He.glo_ok X G (faOk ck0 57), He.exm_ok (faOk ck0 65), He.exm_ok (faOk ck0 66)⟩
  have d__wall : Dfn K mg "_wall" s__wall ["k"] := Dfn.of X G (faOk ck0 0) (c.def_ 0 (d := dfd "_wall" s__wall)) (fun _ _ _ _ _ _ us hl => match us, hl with | [_], _ => rfl)
  have d_is_integer : Dfn K mg "is_integer" s_is_integer ["thing"] := Dfn.of X G (faOk ck0 1) (c.def_ 1 (d := dfd "is_integer" s_is_integer)) (fun _ _ _ _ _ _ us hl => match us, hl with | [_], _ => rfl)
  have d_is_number : Dfn K mg "is_number" s_is_number ["thing"] := Dfn.of X G (faOk ck0 2) (c.def_ 2 (d := dfd "is_number" s_is_number)) (fun _ _ _ _ _ _ us hl => match us, hl with | [_], _ => rfl)
  have d_is_column_part : Dfn K mg "is_column_part" s_is_column_part ["thing"] := Dfn.of X G (faOk ck0 3) (c.def_ 3 (d := dfd "is_column_part" s_is_column_part)) (fun _ _ _ _ _ _ us hl => match us, hl with | [_], _ => rfl)
  have d_is_row_part : Dfn K mg "is_row_part" s_is_row_part ["thing"] := Dfn.of X G (faOk ck0 4) (c.def_ 4 (d := dfd "is_row_part" s_is_row_part)) (fun _ _ _ _ _ _ us hl => match us, hl with | [_], _ => rfl)
  have d_is_name : Dfn K mg "is_name" s_is_name ["thing"] := Dfn.of X G (faOk ck0 5) (c.def_ 5 (d := dfd "is_name" s_is_name)) (fun _ _ _ _ _ _ us hl => match us, hl with | [_], _ => rfl)
  have d_is_limit : Dfn K mg "is_limit" s_is_limit ["thing"] := Dfn.of X G (faOk ck0 6) (c.def_ 6 (d := dfd "is_limit" s_is_limit)) (fun _ _ _ _ _ _ us hl => match us, hl with | [_], _ => rfl)
  have d_is_range : Dfn K mg "is_range" s_is_range ["thing"] := Dfn.of X G (faOk ck0 7) (c.def_ 7 (d := dfd "is_range" s_is_range)) (fun _ _ _ _ _ _ us hl => match us, hl with | [_], _ => rfl)
  have d_are_formulas : Dfn K mg "are_formulas" s_are_formulas ["thing"] := Dfn.of X G (faOk ck0 8) (c.def_ 8 (d := dfd "are_formulas" s_are_formulas)) (fun _ _ _ _ _ _ us hl => match us, hl with | [_], _ => rfl)
  have d_is_long_formula : Dfn K mg "is_long_formula" s_is_long_formula ["thing"] := Dfn.of X G (faOk ck0 9) (c.def_ 9 (d := dfd "is_long_formula" s_is_long_formula)) (fun _ _ _ _ _ _ us hl => match us, hl with | [_], _ => rfl)
  have d_is_formula : Dfn K mg "is_formula" s_is_formula ["thing"] := Dfn.of X G (faOk ck0 10) (c.def_ 10 (d := dfd "is_formula" s_is_formula)) (fun _ _ _ _ _ _ us hl => match us, hl with | [_], _ => rfl)
  have d_parts : Dfn K mg "parts" s_parts ["formula"] := Dfn.of X G (faOk ck0 11) (c.def_ 11 (d := dfd "parts" s_parts)) (fun _ _ _ _ _ _ us hl => match us, hl with | [_], _ => rfl)
  have d_reads : Dfn K mg "reads" s_reads ["formula"] := Dfn.of X G (faOk ck0 12) (c.def_ 12 (d := dfd "reads" s_reads)) (fun _ _ _ _ _ _ us hl => match us, hl with | [_], _ => rfl)
  have d_read_fits : Dfn K mg "read_fits" s_read_fits ["read", "place"] := Dfn.of X G (faOk ck0 13) (c.def_ 13 (d := dfd "read_fits" s_read_fits)) (fun _ _ _ _ _ _ us hl => match us, hl with | [_, _], _ => rfl)
  have d_has_input : Dfn K mg "has_input" s_has_input ["formula"] := Dfn.of X G (faOk ck0 14) (c.def_ 14 (d := dfd "has_input" s_has_input)) (fun _ _ _ _ _ _ us hl => match us, hl with | [_], _ => rfl)
  have d_fits : Dfn K mg "fits" s_fits ["formula", "place"] := Dfn.of X G (faOk ck0 15) (c.def_ 15 (d := dfd "fits" s_fits)) (fun _ _ _ _ _ _ us hl => match us, hl with | [_, _], _ => rfl)
  have d_is_row_of_formulas : Dfn K mg "is_row_of_formulas" s_is_row_of_formulas ["thing"] := Dfn.of X G (faOk ck0 16) (c.def_ 16 (d := dfd "is_row_of_formulas" s_is_row_of_formulas)) (fun _ _ _ _ _ _ us hl => match us, hl with | [_], _ => rfl)
  have d__law_bag : Dfn K mg "_law_bag" s__law_bag ["_law_script"] := Dfn.of X G (faOk ck0 17) (c.def_ 17 (d := dfd "_law_bag" s__law_bag)) (fun _ _ _ _ _ _ us hl => match us, hl with | [_], _ => rfl)
  have d__law_take : Dfn K mg "_law_take" s__law_take ["_law_bag_here", "_law_many"] := Dfn.of X G (faOk ck0 18) (c.def_ 18 (d := dfd "_law_take" s__law_take)) (fun _ _ _ _ _ _ us hl => match us, hl with | [_, _], _ => rfl)
  have d__law_one : Dfn K mg "_law_one" s__law_one ["_law_bag_here", "_law_some"] := Dfn.of X G (faOk ck0 19) (c.def_ 19 (d := dfd "_law_one" s__law_one)) (fun _ _ _ _ _ _ us hl => match us, hl with | [_, _], _ => rfl)
  have d__law_alike : Dfn K mg "_law_alike" s__law_alike ["_law_found", "_law_due"] := Dfn.of X G (faOk ck0 20) (c.def_ 20 (d := dfd "_law_alike" s__law_alike)) (fun _ _ _ _ _ _ us hl => match us, hl with | [_, _], _ => rfl)
  have d__law_nested : Dfn K mg "_law_nested" s__law_nested ["_law_many"] := Dfn.of X G (faOk ck0 21) (c.def_ 21 (d := dfd "_law_nested" s__law_nested)) (fun _ _ _ _ _ _ us hl => match us, hl with | [_], _ => rfl)
  have d__law_odd : Dfn K mg "_law_odd" s__law_odd ["_law_bag_here"] := Dfn.of X G (faOk ck0 22) (c.def_ 22 (d := dfd "_law_odd" s__law_odd)) (fun _ _ _ _ _ _ us hl => match us, hl with | [_], _ => rfl)
  have d__law_number : Dfn K mg "_law_number" s__law_number ["_law_bag_here"] := Dfn.of X G (faOk ck0 23) (c.def_ 23 (d := dfd "_law_number" s__law_number)) (fun _ _ _ _ _ _ us hl => match us, hl with | [_], _ => rfl)
  have d__law_column_part : Dfn K mg "_law_column_part" s__law_column_part ["_law_bag_here"] := Dfn.of X G (faOk ck0 24) (c.def_ 24 (d := dfd "_law_column_part" s__law_column_part)) (fun _ _ _ _ _ _ us hl => match us, hl with | [_], _ => rfl)
  have d__law_range : Dfn K mg "_law_range" s__law_range ["_law_bag_here", "_law_place"] := Dfn.of X G (faOk ck0 25) (c.def_ 25 (d := dfd "_law_range" s__law_range)) (fun _ _ _ _ _ _ us hl => match us, hl with | [_, _], _ => rfl)
  have d__law_name : Dfn K mg "_law_name" s__law_name ["_law_bag_here", "_law_place"] := Dfn.of X G (faOk ck0 26) (c.def_ 26 (d := dfd "_law_name" s__law_name)) (fun _ _ _ _ _ _ us hl => match us, hl with | [_, _], _ => rfl)
  have d__law_formula : Dfn K mg "_law_formula" s__law_formula ["_law_bag_here", "_law_place", "_law_deep", "_law_left"] := Dfn.of X G (faOk ck0 27) (c.def_ 27 (d := dfd "_law_formula" s__law_formula)) (fun _ _ _ _ _ _ us hl => match us, hl with | [_, _, _, _], _ => rfl)
  have d__law_whole_formula : Dfn K mg "_law_whole_formula" s__law_whole_formula ["_law_bag_here", "_law_place"] := Dfn.of X G (faOk ck0 28) (c.def_ 28 (d := dfd "_law_whole_formula" s__law_whole_formula)) (fun _ _ _ _ _ _ us hl => match us, hl with | [_, _], _ => rfl)
  have d__law_is_whole : Dfn K mg "_law_is_whole" s__law_is_whole ["_law_thing"] := Dfn.of X G (faOk ck0 29) (c.def_ 29 (d := dfd "_law_is_whole" s__law_is_whole)) (fun _ _ _ _ _ _ us hl => match us, hl with | [_], _ => rfl)
  have d__law_sheet : Dfn K mg "_law_sheet" s__law_sheet ["_law_bag_here", "_law_most"] := Dfn.of X G (faOk ck0 30) (c.def_ 30 (d := dfd "_law_sheet" s__law_sheet)) (fun _ _ _ _ _ _ us hl => match us, hl with | [_, _], _ => rfl)
  have d__law_heard : Dfn K mg "_law_heard" s__law_heard ["_law_sheet_here", "_law_at"] := Dfn.of X G (faOk ck0 31) (c.def_ 31 (d := dfd "_law_heard" s__law_heard)) (fun _ _ _ _ _ _ us hl => match us, hl with | [_, _], _ => rfl)
  have d__law_right : Dfn K mg "_law_right" s__law_right ["_law_bag_here", "_law_sheet_here", "_law_due"] := Dfn.of X G (faOk ck0 32) (c.def_ 32 (d := dfd "_law_right" s__law_right)) (fun _ _ _ _ _ _ us hl => match us, hl with | [_, _, _], _ => rfl)
  have d_law : Dfn K mg "law" s_law ["_law_script"] := Dfn.of X G (faOk ck0 33) (c.def_ 33 (d := dfd "law" s_law)) (fun _ _ _ _ _ _ us hl => match us, hl with | [_], _ => rfl)
  have x_NoColumn : ∀ (P : Program) (w : World) (base : Heap), ExcX P w K mg base 1 (He.ga K "NoColumn") "NoColumn" "column" := by
    intro P w base
    obtain ⟨fd, F⟩ := c.def_ 34 (d := fn.getD 34 (dfd "" s_law))
    have F2 : Fun K "__init__" "NoColumn.__init__" s_NoColumn___init__ (He.ma K (He.ga K "NoColumn") "__init__") fd := fun_of F
    exact ExcX.of T.x_NoColumn T.g_NoColumn F2 sc_NoColumn___init__ (F2.binds (fun _ _ _ _ _ _ us hl => match us, hl with | [_, _], _ => rfl)) fun f cdv A outer s H E => pss_one (ps_ost (pv 0) (pv 1))
  have d_Sheet___init__ : Dfi K mg (He.ga K "Sheet") "Sheet" "Sheet.__init__" s_Sheet___init__ ["self", "columns"] := by
    obtain ⟨fd, F⟩ := c.def_ 35 (d := fn.getD 35 (dfd "" s_law))
    have F2 : Fun K "__init__" "Sheet.__init__" s_Sheet___init__ (He.ma K (He.ga K "Sheet") "__init__") fd := fun_of F
    exact ⟨_, fd, F2, He.mkr_ok (faOk ck0 56), He.glo_ok X G (faOk ck0 57), F2.binds (fun _ _ _ _ _ _ us hl => match us, hl with | [_, _], _ => rfl)⟩
  have d_Sheet_columns : Dfm K (He.ga K "Sheet") "columns" "Sheet.columns" s_Sheet_columns ["self"] := by
    obtain ⟨fd, F⟩ := c.def_ 36 (d := fn.getD 36 (dfd "" s_law))
    have F2 : Fun K "columns" "Sheet.columns" s_Sheet_columns (He.ma K (He.ga K "Sheet") "columns") fd := fun_of F
    exact ⟨_, fd, F2, He.meth_ok (faOk ck0 58), F2.binds (fun _ _ _ _ _ _ us hl => match us, hl with | [_], _ => rfl)⟩
  have d_Sheet_has_column : Dfm K (He.ga K "Sheet") "has_column" "Sheet.has_column" s_Sheet_has_column ["self", "thing"] := by
    obtain ⟨fd, F⟩ := c.def_ 37 (d := fn.getD 37 (dfd "" s_law))
    have F2 : Fun K "has_column" "Sheet.has_column" s_Sheet_has_column (He.ma K (He.ga K "Sheet") "has_column") fd := fun_of F
    exact ⟨_, fd, F2, He.meth_ok (faOk ck0 59), F2.binds (fun _ _ _ _ _ _ us hl => match us, hl with | [_, _], _ => rfl)⟩
  have d_Sheet___len__ : Dfm K (He.ga K "Sheet") "__len__" "Sheet.__len__" s_Sheet___len__ ["self"] := by
    obtain ⟨fd, F⟩ := c.def_ 38 (d := fn.getD 38 (dfd "" s_law))
    have F2 : Fun K "__len__" "Sheet.__len__" s_Sheet___len__ (He.ma K (He.ga K "Sheet") "__len__") fd := fun_of F
    exact ⟨_, fd, F2, He.meth_ok (faOk ck0 60), F2.binds (fun _ _ _ _ _ _ us hl => match us, hl with | [_], _ => rfl)⟩
  have d_Sheet___getitem__ : Dfm K (He.ga K "Sheet") "__getitem__" "Sheet.__getitem__" s_Sheet___getitem__ ["self", "column"] := by
    obtain ⟨fd, F⟩ := c.def_ 39 (d := fn.getD 39 (dfd "" s_law))
    have F2 : Fun K "__getitem__" "Sheet.__getitem__" s_Sheet___getitem__ (He.ma K (He.ga K "Sheet") "__getitem__") fd := fun_of F
    exact ⟨_, fd, F2, He.meth_ok (faOk ck0 61), F2.binds (fun _ _ _ _ _ _ us hl => match us, hl with | [_, _], _ => rfl)⟩
  have d_Sheet___eq__ : Dfm K (He.ga K "Sheet") "__eq__" "Sheet.__eq__" s_Sheet___eq__ ["self", "other"] := by
    obtain ⟨fd, F⟩ := c.def_ 40 (d := fn.getD 40 (dfd "" s_law))
    have F2 : Fun K "__eq__" "Sheet.__eq__" s_Sheet___eq__ (He.ma K (He.ga K "Sheet") "__eq__") fd := fun_of F
    exact ⟨_, fd, F2, He.meth_ok (faOk ck0 62), F2.binds (fun _ _ _ _ _ _ us hl => match us, hl with | [_, _], _ => rfl)⟩
  obtain ⟨fB, fdB, FB, mB, bB⟩ := d__law_bag.ex
  obtain ⟨fL, fdL, FL, mL, _⟩ := d_law.ex
  have e := hfa.symm.trans mL
  cases e
  refine ⟨fdL, fun s v => ?_, fun base _ _ hTB => ?_⟩
  · obtain ⟨oc, od, kV, doc, pm, an, cdv, ct, osl, rfl, _⟩ := FL.ex
    exact .of_eq rfl
  have c_is_integer : C_is_integer P w K mg base := ok_is_integer T d_is_integer
  have c_isI : C_isI P w K mg base := ok_isI T d_is_integer
  have c_is_number : C_is_number P w K mg base := ok_is_number T d_is_number
  have c_is_column_part : C_is_column_part P w K mg base := ok_is_column_part T d_is_column_part
  have c_is_row_part : C_is_row_part P w K mg base := ok_is_row_part T d_is_row_part
  have c_is_limit : C_is_limit P w K mg base := ok_is_limit T d_is_limit
  have c_is_name : C_is_name P w K mg base := ok_is_name T d_is_name
  have c_is_range : C_is_range P w K mg base := ok_is_range T d_is_range
  have c_parts : C_parts P w K mg base := ok_parts T d_parts
  have c_reads : ∀ n, C_reads n P w K mg base := ok_reads T d_reads
  have c_has_input : ∀ n, C_has_input n P w K mg base := ok_has_input T d_has_input
  have c_read_fits : C_read_fits P w K mg base := ok_read_fits T d_read_fits
  have c_fits := ok_fits 5 T d_fits (c_has_input 5) (c_reads 5)
  have c_is_formula : ∀ n, C_is_formula n P w K mg base := ok_is_formula T d_is_formula d_are_formulas d_is_long_formula
  have c_is_row : C_is_row_of_formulas P w K mg base := ok_is_row T d_is_row_of_formulas (c_is_formula 5)
  have i_Sheet : I_SheetS P w K mg base := ok_Sheet_initS T d_Sheet___init__ c_fits
  have io_Sheet : I_SheetO P w K mg base := ok_Sheet_initO T d_Sheet___init__ c_fits
  have m_hasX : M_hasX P w K mg base := ok_hasX T d_Sheet_has_column c_isI
  have m_cols : M_columns P w K mg base := ok_columns T d_Sheet_columns
  have m_len : M_len P w K mg base := ok_len T d_Sheet___len__
  have m_get : M_get P w K mg base := ok_get T d_Sheet___getitem__ m_hasX (x_NoColumn P w base)
  have m_eq : M_eq P w K mg base := ok_eq T d_Sheet___eq__ m_cols
  have t_take : CTake P w K mg base := ok_take T d__law_take
  have t_one : COne P w K mg base := ok_one T d__law_one
  have t_alike : CAlikeS P w K mg base := ok_alikeS T d__law_alike
  have t_number : C__law_number P w K mg base := ok_number T d__law_number
  have t_part : C__law_column_part P w K mg base := ok_part T d__law_column_part
  have t_range : C__law_range P w K mg base := ok_range T d__law_range
  have t_name : C__law_name P w K mg base := ok_name T d__law_name
  have t_formula : ∀ n, C__law_formula n P w K mg base := ok_formula T d__law_formula
  have t_whole : C__law_whole_formula P w K mg base := ok_whole T d__law_whole_formula (t_formula 5)
  have l_whole : C__law_is_whole P w K mg base := ok_lwhole T d__law_is_whole
  have l_sheet : C__law_sheet P w K mg base := ok_sheet T d__law_sheet
  have l_nested : CNest P w K mg base := ok_nested T d__law_nested
  have l_odd : COddV P w K mg base := ok_oddV T d__law_odd
  have l_heard : C_heard P w K mg base := ok_heard T d__law_heard m_get
  have l_right : C_right P w K mg base := ok_right T d__law_right t_take l_odd l_whole l_heard t_alike m_cols m_len
  have law_rest := fun (T : Tx K mg) {f : Addr} {cdv : Value} {A : Around} {outer : List Env} {s : Shared} {H : Hp} {E : XK} (gd : Ng A) (hr : Room 149 (A.deeper (envOfC "law" (defScope s_law) s.heap.objs.size f cdv))) => law_rest0 (outer := outer) (H := H) (E := E) T t_take t_alike l_sheet l_right l_heard i_Sheet io_Sheet m_eq gd hr
  have GB : FnOk P w K mg base CX0 1 fB fdB ["_law_script"] (spBag K) := ok_bag T FB
  refine law_fnY (i := 1) (s1 := (defBody s_law).getD 0 (.Pass ⟨0, 0, 0, 0⟩)) (rest := (defBody s_law).drop 1) FL sc_law rfl (by decide) (by decide) fun cdv A outer s H E gd hr => ⟨?_, ?_⟩
  · exact ps_set (i := 1) sc_law.nd rfl (Or.inr rfl) (pe_call GB (hr.mono (by decide)) (by rfl) mB FB.kp bB .nil pass0 (pa_cons (pv 0) pa_nil))
  · exact law_rest T gd hr
end K20
open PySem PySem.W PySem.Calls PyProof.Rows
set_option maxHeartbeats 0 in
theorem PySem.Challenge.cw_longsheet_k20_sheets_told_holds : PySem.Challenge.rw_longsheet_k20_sheets_told.Holds := by
  w_on; o_law
  refine HandSHeadRun.head_any (r := OpenLaw.row PySem.Challenge.rw_longsheet_k20_sheets_told) (q := view (OpenLaw.row PySem.Challenge.rw_longsheet_k20_sheets_told).prog [48]) (H := K20.hk) (ob := K20.ob) (M := 6000) (loose := K20.loose) (d := HandSHeadRun.topDef (OpenLaw.row PySem.Challenge.rw_longsheet_k20_sheets_told).prog 48) (kwd := []) K20.ob_eq
    (by kernel_rfl) (fun s => by kernel_rfl) K20.run (by kernel_rfl) (by kernel_rfl) (by kernel_rfl) (by rfl) (by first | assumption | decide +kernel) (by decide +kernel) ⟨rfl, rfl, rfl, rfl, rfl, by decide +kernel⟩ ?hw ?hc
  case hw => w_witness2
  case hc =>
    refine DL.walk_ofGT (must := K20.must) (l := PySem.Challenge.rw_longsheet_k20_sheets_told) (n := 63) (k := 150) (x := "_law_script") rfl (by decide) (by kernel_rfl) ⟨rfl, by decide, by decide⟩ ?F
    intro w mg fa h Y G hmg0
    obtain ⟨K, KX, c, tl⟩ := Y
    have hmg : mg ("law" : PySem.Str) = some (.ref fa) := by
      have e : (HandSHeadRun.topDef (OpenLaw.row PySem.Challenge.rw_longsheet_k20_sheets_told).prog 48).name = ("law" : PySem.Str) := by kernel_rfl
      rw [← e]
      exact hmg0
    obtain ⟨fd, hb, hF⟩ := K20.facts (P := (PySem.Challenge.rw_longsheet_k20_sheets_told).prog) (w := w) KX G hmg c tl
    exact ⟨K, fd, KX, tl, hb, hF⟩
