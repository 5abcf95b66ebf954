import PyProof.Rows.All
import Wide.All
import OpenK.AllK
import Wide.FinOn
import HandS.ForMost
import HandS.WordsExc
import PyProof.ReprRoads
import HandS.IsInst
import HandS.Flow
import HandS.WideBits
import HandS.TupAny
import HandS.Style
import HandS.RaiseMore
import HandS.SortInts
import HandS.Zip
import HandS.NoneIn
import HandS.More
import KE.SortData
import KE.DataMinMax
import KE.GoesMore
import KE.GoesEnum
import KE.KListMore
import KE.OsSortAny
import HandS.Conv
import HandS.SetFor
import KE.DataFind
import KE.DataCmp
import KE.KRevSl
import HandS.ListItems
import KE.KDictPairs
import KE.KDictDisplayH
import HandS.ForExc
import HandS.ExcInit
import HandS.ExcField
import HandS.CallSlots
import KE.KExcIs
import HandS.Lambda
import KE.SortKeyHeap
import HandS.EndTab
import PySem.Challenge.RW_mergetree_k39_free_ones
set_option Elab.async false
set_option linter.all false
set_option maxRecDepth 100000
set_option maxHeartbeats 4000000
namespace G
open PySem PySem.Spec PyProof.Rows L2

/-! ### room for calls, where nothing is being shown (repr) -/
structure RoomG (k : Nat) (A : Around) : Prop extends Room k A where
  gd : A.guards = some []
theorem RoomG.mono {j k : Nat} {A : Around} (r : RoomG k A) (h : j ≤ k) : RoomG j A := ⟨r.toRoom.mono h, r.gd⟩
theorem RoomG.deeper {k : Nat} {A : Around} (r : RoomG (k + 1) A) (env : Env) : RoomG k (A.deeper env) := ⟨r.toRoom.deeper env, r.gd⟩
theorem RoomG.units {k : Nat} {A : Around} (r : RoomG k A) : A.units + 64 < cLine := r.toRoom.units
theorem RoomG.units0 {k : Nat} {A : Around} (r : RoomG k A) : A.units < cLine := r.toRoom.units0
/-- a def's promise, called where nothing is being shown -/
structure FnG (P : Program) (w : World) (K : PySem.W.Frag) (mg : Str → Option Value) (base : Heap) (CX : CXT) (k : Nat) (f : Addr) (fd : FuncData) (ps : List Str) (sp : Sp) : Prop where
  len : ∀ vs H Q E, sp vs H Q E → vs.length = ps.length
  run : ∀ (A : Around) (ou : List Env) (s : Shared) (H : Hp) (ar : Args) (us : List Value) (vs : List V) (Q : VK) (E : XK), RoomG k A → Env0 P w K mg base A ou s H → BindsTo s fd ar (ps.zip us) →
    Vals vs us → sp vs H Q E → codeAny (model P w) A (.call (.ref f) ar) (CR CX ou P w H s Q E) s
section
variable {P : Program} {w : World} {K : PySem.W.Frag} {mg : Str → Option Value} {base : Heap} {CX : CXT} {j k : Nat} {f : Addr} {fd : FuncData} {ps : List Str} {sp sp' : Sp}
theorem FnG.of (F : FnOk P w K mg base CX k f fd ps sp) : FnG P w K mg base CX k f fd ps sp := ⟨F.len, fun A ou s H ar us vs Q E r => F.run A ou s H ar us vs Q E r.toRoom⟩
theorem FnG.mono (F : FnG P w K mg base CX j f fd ps sp) (h : j ≤ k) : FnG P w K mg base CX k f fd ps sp := ⟨F.len, fun A ou s H ar us vs Q E r => F.run A ou s H ar us vs Q E (r.mono h)⟩
theorem FnG.imp (F : FnG P w K mg base CX k f fd ps sp) (h : ∀ vs H Q E, sp' vs H Q E → sp vs H Q E) : FnG P w K mg base CX k f fd ps sp' :=
  ⟨fun vs H Q E q => F.len vs H Q E (h _ _ _ _ q), fun A ou s H ar us vs Q E r e0 b v q => F.run A ou s H ar us vs Q E r e0 b v (h _ _ _ _ q)⟩
end
/-- the same as fn_of, where nothing is being shown -/
theorem fn_ofG {CX : CXT} {P : Program} {w : World} {K : PySem.W.Frag} {mg : Str → Option Value} {base : Heap} {k : Nat} {f : Addr} {name qual : Str} {pr : Arguments} {body : List Stmt} {sc : Scope}
    {dV kV doc pm cdv ct oc : Value} {an od : Option Addr} {osl : Array (Option Value)} {N ps : List Str} {sp : Sp}
    (lk : K.lookup f = some ⟨oc, od, .func (PySem.W.fnOf name qual pr body sc dV kV doc pm an cdv ct), osl⟩) (hc : PySem.W.codeIn K cdv qual = true) (S : FnScope N ps sc) (len : ∀ vs H Q E, sp vs H Q E → vs.length = ps.length)
    (hb : ∀ (A : Around) (ou : List Env) (s : Shared) (H : Hp) (vs : List V) (Q : VK) (E : XK), RoomG k (A.deeper (envOfC qual sc s.heap.objs.size f cdv)) → sp vs H Q E →
      ∃ t, PSs (cxOf CX P w K mg base N qual sc f cdv A ou s H E) body t ∧ t { nx := fun _ H' => Q .non H', rt := Q } (start N vs) H) :
    FnG P w K mg base CX (k + 1) f (PySem.W.fnOf name qual pr body sc dV kV doc pm an cdv ct) ps sp := by
  refine ⟨len, fun A ou s H ar us vs Q E r e0 b rv q => ?_⟩
  have l1 := len _ _ _ _ q
  have hK : K.In s.heap := e0.mod.kin.keeps fun x o e => (e0.bs x o e).1
  have hL : s.heap.NoLimit := e0.mod.nolimit.keeps fun x o e => (e0.bs x o e).1
  have kinds : ∀ z ∈ ps.zip us, sc.names.lookup z.1 = some .local ∨ (sc.names.lookup z.1 = some .cell ∧ ((cellsFrom (s.heap.objs.size + 1) sc.names []).lookup z.1).isSome = true) := by
    rintro ⟨n, v⟩ hz
    rcases S.par n (List.of_mem_zip hz).1 with h | h
    · exact .inl h
    · exact .inr ⟨h, PySem.W.cellsFrom_some _ _ _ (.inl h)⟩
  refine codeAny_call_function r.toRoom.depth (hK _ _ lk) rfl S.co S.gen rfl (PySem.W.codeRec_of hK hc) (b _ _ _ _ ?_)
  refine wpAny_newFunctionEnv_cells S.kind kinds fun env ev s1 x => ?_
  subst ev
  refine ⟨hL.keeps x.toInCall.keep, codeAny_func ?_⟩
  obtain ⟨t, ht, hq⟩ := hb A ou s H vs Q E (r.deeper _) q
  have I := inv_start (CX := CX) (E := E) S r.toRoom.hd e0 l1 rv x
  refine wpAny_mono (ht.run [] s1 (start N vs) H _ I hq) (fun fl s' hs => ?_) fun _ _ hs => hs
  cases fl with
  | ret u =>
    obtain ⟨v, σ', H', J, rr, qq⟩ := hs
    exact ⟨v, H', J.os, J.bare, J.base, J.hok, rr, qq⟩
  | next =>
    obtain ⟨σ', H', J, qq⟩ := hs
    exact ⟨V.non, H', J.os, J.bare, J.base, J.hok, (rfl : Value.none = Value.none), qq⟩
  | brk =>
    obtain ⟨_, _, _, qq⟩ := hs
    exact qq.elim
  | cont =>
    obtain ⟨_, _, _, qq⟩ := hs
    exact qq.elim
section
variable {P : Program} {w : World} {K : PySem.W.Frag} {mg : Str → Option Value} {base : Heap}
/-- a def of the text, by its body -/
theorem okG {x qual : Str} {st : Stmt} {f : Addr} {fd : FuncData} {N ps : List Str} {k : Nat} {sp : Sp} (F : Fun K x qual st f fd) (S : FnScope N ps (defScope st)) (len : ∀ vs H Q E, sp vs H Q E → vs.length = ps.length)
    (hb : ∀ (cdv : Value) (A : Around) (ou : List Env) (s : Shared) (H : Hp) (vs : List V) (Q : VK) (E : XK), RoomG k (A.deeper (envOfC qual (defScope st) s.heap.objs.size f cdv)) → sp vs H Q E →
      ∃ t, PSs (cxOf CX0 P w K mg base N qual (defScope st) f cdv A ou s H E).nox (defBody st) t ∧ t { nx := fun _ H' => Q .non H', rt := Q } (start N vs) H) : FnG P w K mg base CX0 (k + 1) f fd ps sp := by
  obtain ⟨oc, od, kV, doc, pm, an, cdv, ct, osl, rfl, lk, hcd⟩ := F.ex
  refine fn_ofG lk hcd S len fun A ou s H vs Q E r q => ?_
  obtain ⟨t, ht, hq⟩ := hb cdv A ou s H vs Q E r q
  exact ⟨t, ht.nox, hq⟩
theorem okXG {x qual : Str} {st : Stmt} {f : Addr} {fd : FuncData} {N ps : List Str} {k : Nat} {sp : Sp} (F : Fun K x qual st f fd) (S : FnScope N ps (defScope st)) (len : ∀ vs H Q E, sp vs H Q E → vs.length = ps.length)
    (hb : ∀ (cdv : Value) (A : Around) (ou : List Env) (s : Shared) (H : Hp) (vs : List V) (Q : VK) (E : XK), RoomG k (A.deeper (envOfC qual (defScope st) s.heap.objs.size f cdv)) → sp vs H Q E →
      ∃ t, PSs (cxOf (L2.CX P w) P w K mg base N qual (defScope st) f cdv A ou s H E) (defBody st) t ∧ t { nx := fun _ H' => Q .non H', rt := Q } (start N vs) H) : FnG P w K mg base (L2.CX P w) (k + 1) f fd ps sp := by
  obtain ⟨oc, od, kV, doc, pm, an, cdv, ct, osl, rfl, lk, hcd⟩ := F.ex
  exact fn_ofG lk hcd S len fun A ou s H vs Q E r q => hb cdv A ou s H vs Q E r q
end
section
variable {X : Cx} {CX : CXT} {k : Nat} {f C : Addr} {fd : FuncData} {ps : List Str} {sp : Sp} {dvs : List V} {ds : List Value} {E : XK} {x m : Str} {p pos apos : Pos} {e o : Expr} {es : List Expr} {ta : TE} {t : TA}
theorem run_fnG {pins : List (Addr × Obj)} {σ : L2.St} {H : Hp} {s : Shared} {Q : VK} {us : List Value} {vs : List V} (F : FnG X.prog X.w X.K X.mg X.base CX k f fd ps sp) (hr : RoomG k X.A) (hb : Binds X.K fd ps ds)
    (hd : Vals dvs ds) (hx : Passes CX X E) (I : Inv X pins σ H s) (r : Vals vs us) (h : sp (vs ++ dvs) H Q E) : wpAny (model X.prog X.w) X.A (call (.ref f) us) (EP X pins σ Q) X.xe s := by
  have rr : Vals (vs ++ dvs) (us ++ ds) := r.append hd
  have hl : (us ++ ds).length = ps.length := by rw [← rr.length]; exact F.len _ _ _ _ h
  refine wpAny_call (codeAny_mono (F.run X.A X.stack s H ⟨us, []⟩ (us ++ ds) (vs ++ dvs) Q E hr I.env0 (hb s us I.kIn hl) rr h) fun r s' q => ?_)
  match r, q with
  | .error e, q => exact hx pins σ H s e s' I q
  | .ok (.ret u), q => exact I.after q
  | .ok .next, q => exact q.elim
  | .ok .brk, q => exact q.elim
  | .ok .cont, q => exact q.elim
theorem pe_callG (F : FnG X.prog X.w X.K X.mg X.base CX k f fd ps sp) (hr : RoomG k X.A) (hg : Gl X x) (hm : X.mg x = some (.ref f)) (hk : PySem.W.keepIn X.K (.ref f) = true) (hb : Binds X.K fd ps ds) (hd : Vals dvs ds)
    (hx : Passes CX X E) (ha : PA X (e :: es) t) (hdb : (x == ("__debug__" : Str)) = false := by decide) (he : starEach (e :: es) X.env = (false, eval e X.env) :: starEach es X.env := by rfl)
    (hpl : (backTo pos (starEach es X.env)).any (·.1) = false := by rfl) : PE X (.Call (.Name x p) (e :: es) [] pos) (tCall sp dvs E t) := by
  refine ⟨fun pins s σ H Q I h => wpAny_Call_Name_kw (ld_glob I hg hm ?_ hdb)⟩
  refine PySem.W.callWith_K (h₀ := X.base) I.ok.mod.kin hk (thn (ha.run pos pins s σ H _ I h) fun us s1 ⟨vs, H1, I1, r, q⟩ => ⟨I1.kIn, run_fnG F hr hb hd hx I1 r q⟩) he hpl
theorem pe_callG0 (F : FnG X.prog X.w X.K X.mg X.base CX k f fd ps sp) (hr : RoomG k X.A) (hg : Gl X x) (hm : X.mg x = some (.ref f)) (hk : PySem.W.keepIn X.K (.ref f) = true) (hb : Binds X.K fd ps ds) (hd : Vals dvs ds)
    (hx : Passes CX X E) (hdb : (x == ("__debug__" : Str)) = false := by decide) : PE X (.Call (.Name x p) [] [] pos) (tCall sp dvs E tNil) :=
  ⟨fun pins s σ H Q I h => wpAny_Call_Name_kw (ld_glob I hg hm (PySem.W.callWith_K0 I.kIn hk (run_fnG (us := []) F hr hb hd hx I .nil h)) hdb)⟩
end
/-! ### the law's call -/
theorem law_callG {P : Program} {w : World} {K : PySem.W.Frag} {mg mb : Str → Option Value} {CX : CXT} {k : Nat} {fa a : Addr} {fd : FuncData} {x : Str} {sp : Sp} {s : Shared} {vs : List Value} {ns : List Int}
    (KX : K.In s.heap) (hns : s.heap.Ns mainGlobals mg) (hb : s.heap.Ns builtinsNs mb) (hbb : ∀ x : Str, x ≠ "__name__" → mb x = bootBuiltins x) (hlim : s.heap.NoLimit) (hg : s.gens = #[])
    (ha : s.heap.get? a = some { cls := .type "list", data := .seq vs.toArray }) (hi : IntsAre vs ns) (hl : ns.length ≤ sizeLine) (hr : RoomG k callerA)
    (F : ∀ base : Heap, K.In base → base.Ns mainGlobals mg → FnG P w K mg base CX k fa fd [x] sp) (hbind : ∀ (s : Shared) (u : Value), BindsTo s fd ⟨[u], []⟩ [(x, u)])
    (hsp : ∀ H : Hp, Only H → SqL K H a (ns.map V.int) → sp [.ref a] H (fun v _ => v = .bl true) fun _ _ _ => False) (hCX : ∀ H e s', CX [] H s (fun _ _ _ => False) e s' → False) :
    codeAny (model P w) callerA (.call (.ref fa) ⟨[.ref a], []⟩) (fun r s' => r = .ok (.ret (.bool true)) ∧ OldK s.heap s'.heap ∧ s'.os = s.os ∧ AllBare s'.gens) s := by
  have rv := vals_ints hi
  have hvl := hi.length
  -- H: nothing is tracked but the script
  have go : ∀ H : Hp, Only H → SqL K H a (ns.map V.int) → HOk P w H s.heap → (∀ b, H b ≠ none → b = a) → (H a ≠ none → K.lookup a = none) →
      codeAny (model P w) callerA (.call (.ref fa) ⟨[.ref a], []⟩) (fun r s' => r = .ok (.ret (.bool true)) ∧ OldK s.heap s'.heap ∧ s'.os = s.os ∧ AllBare s'.gens) s := by
    intro H hO hS hok hA hKa
    have keep : ∀ {b : Addr} {o : Obj}, s.heap.get? b = some o → H b = none → (hidT s.heap H).get? b = some o := fun e n => hidT_get e n
    have untr : ∀ {b : Addr}, b ≠ a → H b = none := fun {b} n => by
      cases q : H b with
      | none => rfl
      | some u => exact absurd (hA b (by rw [q]; exact fun z => nomatch z)) n
    have nsK : ∀ {b : Addr} {m : Str → Option Value}, s.heap.Ns b m → (hidT s.heap H).Ns b m := by
      rintro b m ⟨o, es, ep, e, d, r⟩
      refine ⟨o, es, ep, keep e (untr fun z => ?_), d, r⟩
      rw [z, ha] at e
      cases e
      have d' : Data.seq vs.toArray _ = Data.dict es ep := d
      cases d'
    have hKb : K.In (hidT s.heap H) := fun b o e => keep (KX b o e) (by
      cases q : H b with
      | none => rfl
      | some u =>
        obtain rfl : b = a := hA b (by rw [q]; exact fun z => nomatch z)
        rw [hKa (by rw [q]; exact fun z => nomatch z)] at e; cases e)
    have hM : Mod K mg (hidT s.heap H) := ⟨hKb, nsK hns, ⟨mb, nsK hb, hbb⟩, let ⟨mc, h1, h2⟩ := hlim; ⟨mc, nsK h1, h2⟩⟩
    have e0 : Env0 P w K mg (hidT s.heap H) callerA [] s H :=
      ⟨rfl, hM, fun _ _ e => of_hidT e, Nat.le_of_eq (hidT_size _ _), trivial, fun b hb => absurd (show b ∈ ([] : List Addr) from hb) (fun z => nomatch z), hok, .of_eq hg⟩
    refine codeAny_mono ((F _ hKb (nsK hns)).run callerA [] s H ⟨[.ref a], []⟩ [.ref a] [.ref a] _ _ hr e0 (hbind s (.ref a)) (.cons rfl .nil) (hsp H hO hS)) fun r s' h => ?_
    match r, h with
    | .error e, h => exact (hCX H e s' h).elim
    | .ok .next, h => exact h.elim
    | .ok .brk, h => exact h.elim
    | .ok .cont, h => exact h.elim
    | .ok (.ret u), ⟨v, H', os, bare, un, hok', r', q⟩ =>
      have q' : v = .bl true := q
      subst q'
      obtain rfl : u = Value.bool true := r'
      refine ⟨rfl, OldK.of_keep fun b o e => ?_, os, bare⟩
      cases q : H b with
      | none => exact un.keep b o e q (fun z => nomatch (show b ∈ ([] : List Addr) from z)) (fun z => nomatch z)
      | some u =>
        rcases hO b with z | ⟨ob, xs, z⟩
        · rw [q] at z; cases z
        · obtain ⟨e1, _⟩ := hok b _ z
          obtain ⟨e2, _⟩ := hok' b _ (un.frzs b ob _ z)
          rw [e] at e1
          cases e1
          exact e2
  cases hk : K.lookup a with
  | some o =>
    have e := KX a o hk
    rw [ha] at e
    cases e
    exact go (fun _ => none) (fun _ => .inl rfl) (.inr ⟨_, vs.toArray, _, hk, rfl, rfl, rfl, by rw [List.size_toArray, hvl]; exact hl, by simpa using rv⟩) (fun b u z => nomatch z) (fun b z => absurd rfl z) fun z => absurd rfl z
  | none =>
    have at_ : ∀ {b : Addr} {u : HO}, (if b = a then some (HO.frz { cls := .type "list", data := .seq vs.toArray } (.lst (ns.map V.int))) else none) = some u → b = a := fun {b u} z => Decidable.byContradiction fun n => by
      rw [if_neg n] at z; cases z
    refine go (fun b => if b = a then some (.frz { cls := .type "list", data := .seq vs.toArray } (.lst (ns.map V.int))) else none) (fun b => ?_) (.inl (.inr ⟨_, if_pos rfl⟩)) (fun b u z => ?_) (fun b z => ?_) fun _ => hk
    · by_cases n : b = a
      · exact .inr ⟨_, _, if_pos n⟩
      · exact .inl (if_neg n)
    · obtain rfl := at_ z
      have z' := (if_pos rfl).symm.trans z
      cases z'
      exact ⟨ha, by rw [List.length_map]; exact hl, vs, _, rv, ha⟩
    · exact Decidable.byContradiction fun n => z (if_neg n)
theorem walk_ofG {l : PySem.W.OpenLaw} {n k : Nat} {q : Program} {loose : List Str} {XP : (Str → Option Value) → Heap → Prop} {YP : World → Heap → Prop} {d : DefRec} {K : Params → PySem.W.Frag} {CX : World → CXT} {sp : World → Sp} {x : Str}
    (hn : l.most = some n) (hn2 : n ≤ sizeLine) (hdf : d.params.defaults = []) (hr : RoomG k callerA) (hY : ∀ (w : World) (h : Heap), YP w h → (K w.params).In h)
    (F : ∀ (w : World) (mg : Str → Option Value) (fa : Addr) (h : Heap), (K w.params).In h → h.Ns mainGlobals mg → mg d.name = some (.ref fa) →
      ∃ fd : FuncData, (∀ (s : Shared) (u : Value), BindsTo s fd ⟨[u], []⟩ [(x, u)]) ∧ ∀ base : Heap, (K w.params).In base → base.Ns mainGlobals mg → FnG l.prog w (K w.params) mg base (CX w) k fa fd [x] (sp w))
    (hsp : ∀ (w : World) (H : Hp) (a : Addr) (ns : List Int), ns.length ≤ n → Only H → SqL (K w.params) H a (ns.map V.int) → sp w [.ref a] H (fun v _ => v = .bl true) fun _ _ _ => False)
    (hCX : ∀ (w : World) (H : Hp) (s : Shared) (e : Value) (s' : Shared), CX w [] H s (fun _ _ _ => False) e s' → False) : PySem.W.WalkO q loose XP YP l.row.toRowW d [] (fun f vs => PySem.call f vs) := by
  refine Att.attach_call hn hdf fun w s0 s mg mb fa o pm cd doc a vs ns G Y ho hd hcd hmg hobj hints hlen hg => ?_
  have KX := hY w _ Y
  obtain ⟨fd, hb, hF⟩ := F w mg fa _ KX G.T.g hmg
  exact law_callG KX G.T.g G.T.b G.T.builtins G.T.nolimit hg hobj hints (Nat.le_trans hlen hn2) hr hF hb (fun H hO hS => hsp w H a ns hlen hO hS) fun H e s' => hCX w H s e s'
/-! ### str() of data -/
def rStrD (K : PySem.W.Frag) : List V → Hp → VK → Prop := fun xs H Q => ∃ (a : Addr) (d : PyData), xs = [.ref a] ∧ Dp K H (.ref a) d ∧ d.showable = true ∧ d.hasDict = false ∧ d.shown.length ≤ sizeLine ∧ d.depth ≤ 60 ∧ Q (.str d.shown) H
theorem call_strD {X : Cx} (hu : X.A.units + 64 < cLine) (hg : X.A.guards = some []) : CallR X (.type "str") (rStrD X.K) := by
  intro pins s σ H vs us Q I r h
  obtain ⟨a, d, rfl, hd, hs, hn, hz, hp, q⟩ := h
  rw [Vals.ref1 r]
  obtain ⟨as, rd⟩ := Dp.reads I _ _ _ hd (show RelV (.ref a) (.ref a) from rfl)
  exact str_of_reads rd hs (PyData.noDict_hsm hn) hg (by omega) (fun _ _ e => e) (fun h' u tk hk => ⟨.str d.shown, H, I.kept hk, ⟨u, rfl⟩, q⟩) hz
end G

namespace G
open PySem PySem.Spec PyProof.Rows L2

/-! ### rules by values, of any kind -/
section
variable {X : Cx}
def rMulS : R2 := fun x y H Q => ∃ z n, x = .str z ∧ y = .int n ∧ MulOk z n ∧ Q (.str (Txt.mul z n)) H
theorem op_mulS : OpR X (binaryOp .Mult) rMulS := by
  intro pins s σ H x y v u Q I rx ry h
  obtain ⟨z, n, rfl, rfl, ok, q⟩ := h
  obtain ⟨t, rfl⟩ := rx
  obtain ⟨t', rfl⟩ := ry
  exact SB.mul ok fun t' k => ⟨.str _, H, I.tok k, ⟨_, rfl⟩, q⟩
abbrev rOr (r r' : R2) : R2 := fun x y H Q => r x y H Q ∨ r' x y H Q
abbrev rAddI : R2 := rI0 fun i j => .int (i + j)
abbrev rAddS : R2 := fun x y H Q => ∃ i j, x = .str i ∧ y = .str j ∧ i.length + j.length ≤ sizeLine ∧ Q (.str (i ++ j)) H
abbrev rAddB : R2 := fun x y H Q => ∃ i k, x = .int i ∧ y = .bl k ∧ Q (.int (i + b2i k)) H
def gAdd (K : PySem.W.Frag) : R2 := rOr rAddI (rOr rAddS (rOr rCat (rOr (rCatA K) rAddB)))
theorem oAdd {K : PySem.W.Frag} (hK : X.K = K := by rfl) : OpR X (binaryOp .Add) (gAdd K) := by subst hK; exact op_add.or (op_add_str.or (op_cat.or (op_catA.or op_add_ib)))
def gMns : R2 := rI0 fun i j => .int (i - j)
theorem oSub : OpR X (binaryOp .Sub) gMns := op_sub
def gMul : R2 := rOr (rI CMul fun i j => .int (i * j)) (rOr rMulS rRep)
theorem oMul : OpR X (binaryOp .Mult) gMul := op_mul.or (op_mulS.or op_rep)
def gMod : R2 := rI (fun _ j => 0 < j) fun i j => .int (i % j)
theorem oMod : OpR X (binaryOp .Mod) gMod := op_mod
def gDiv : R2 := rI CDiv fun i j => .int (i / j)
theorem oDiv : OpR X (binaryOp .FloorDiv) gDiv := op_fdiv
def gPow : R2 := rI CPow fun i j => .int (i ^ j.toNat)
theorem oPow : OpR X (binaryOp .Pow) gPow := op_pow
abbrev rCS (p : List Nat → List Nat → Bool) : R2 := fun x y H Q => ∃ i j, x = .str i ∧ y = .str j ∧ Q (.bl (p i.cps.toList j.cps.toList)) H
def gLt : R2 := rOr (rI0 fun i j => .bl (decide (i < j))) (rCS fun a b => decide (a < b))
theorem oLt (hu : X.A.units + 64 < cLine) : OpR X (compareOp .Lt) gLt := op_lt.or op_lt_str
def gLe : R2 := rOr (rI0 fun i j => .bl (decide (i ≤ j))) (rCS fun a b => !decide (b < a))
theorem oLe (hu : X.A.units + 64 < cLine) : OpR X (compareOp .LtE) gLe := op_le.or op_le_str
def gGt : R2 := rOr (rI0 fun i j => .bl (decide (j < i))) (rCS fun a b => decide (b < a))
theorem oGt (hu : X.A.units + 64 < cLine) : OpR X (compareOp .Gt) gGt := op_gt.or op_gt_str
def gGe : R2 := rOr (rI0 fun i j => .bl (decide (j ≤ i))) (rCS fun a b => !decide (a < b))
theorem oGe (hu : X.A.units + 64 < cLine) : OpR X (compareOp .GtE) gGe := op_ge.or op_ge_str
/-- a dict == {} -/
def rEqD0 : R2 := fun x y H Q => ∃ a b ks, x = .ref a ∧ y = .ref b ∧ H a = some (.dK ks) ∧ H b = some (.dK []) ∧ Q (.bl ks.isEmpty) H
def rNeD0 : R2 := fun x y H Q => ∃ a b ks, x = .ref a ∧ y = .ref b ∧ H a = some (.dK ks) ∧ H b = some (.dK []) ∧ Q (.bl (!ks.isEmpty)) H
theorem op_eqD0 (hu : X.A.units < cLine) : OpR X (compareOp .Eq) rEqD0 := by
  intro pins s σ H x y v u Q I rx ry h
  obtain ⟨a, b, ks, rfl, rfl, ea, eb, q⟩ := h
  obtain rfl : v = Value.ref a := rx
  obtain rfl : u = Value.ref b := ry
  obtain ⟨_, ya, va, ra, da⟩ := (show ObjOk X.prog X.w H s.heap a (.dK ks) from I.hok a _ ea)
  obtain ⟨_, yb, vb, rb, db⟩ := (show ObjOk X.prog X.w H s.heap b (.dK []) from I.hok b _ eb)
  cases rb
  have hl := ra.length
  refine PySem.W.keq_eq (knd := mixKind X.prog X.w) (r := true) ya yb da db hu (fun e => ?_) ⟨.bl ks.isEmpty, H, I, ?_, q⟩
  · cases va with
    | nil => exact .nil
    | cons _ _ => cases e
  · cases ks with
    | nil => cases ra; rfl
    | cons _ _ => cases ra; rfl
theorem op_neD0 (hu : X.A.units < cLine) : OpR X (compareOp .NotEq) rNeD0 := by
  intro pins s σ H x y v u Q I rx ry h
  obtain ⟨a, b, ks, rfl, rfl, ea, eb, q⟩ := h
  obtain rfl : v = Value.ref a := rx
  obtain rfl : u = Value.ref b := ry
  obtain ⟨_, ya, va, ra, da⟩ := (show ObjOk X.prog X.w H s.heap a (.dK ks) from I.hok a _ ea)
  obtain ⟨_, yb, vb, rb, db⟩ := (show ObjOk X.prog X.w H s.heap b (.dK []) from I.hok b _ eb)
  cases rb
  have hl := ra.length
  refine PySem.W.keq_ne (knd := mixKind X.prog X.w) (r := true) ya yb da db hu (fun e => ?_) ⟨.bl (!ks.isEmpty), H, I, ?_, q⟩
  · cases va with
    | nil => exact .nil
    | cons _ _ => cases e
  · cases ks with
    | nil => cases ra; rfl
    | cons _ _ => cases ra; rfl
def gEq (K : PySem.W.Frag) : R2 := rOr rEq (rOr (rEqD K) rEqD0)
theorem oEq {K : PySem.W.Frag} (hu : X.A.units + 64 < cLine) (hK : X.K = K := by rfl) : OpR X (compareOp .Eq) (gEq K) := by subst hK; exact op_eq.or ((op_eqD hu).or (op_eqD0 (by omega)))
def gNe (K : PySem.W.Frag) : R2 := rOr rNe (rOr (rNeD K) rNeD0)
theorem oNe {K : PySem.W.Frag} (hu : X.A.units + 64 < cLine) (hK : X.K = K := by rfl) : OpR X (compareOp .NotEq) (gNe K) := by subst hK; exact op_ne.or ((op_neD hu).or (op_neD0 (by omega)))
theorem op_isB : OpR X (compareOp .Is) (fun x y H Q => ∃ a b, x = .bl a ∧ y = .bl b ∧ Q (.bl (decide (a = b))) H) := by
  intro pins s σ H x y v u Q I rx ry h
  obtain ⟨a, b, rfl, rfl, q⟩ := h
  cases (show v = Value.bool a from rx)
  cases (show u = Value.bool b from ry)
  by_cases e : a = b
  · subst e
    exact wpAny_is_self rfl ⟨.bl true, H, I, rfl, by simpa using q⟩
  · exact wpAny_is_other rfl (fun z => e (Value.bool.inj z)) ⟨.bl false, H, I, rfl, by simpa [e] using q⟩
theorem op_isNB : OpR X (compareOp .IsNot) (fun x y H Q => ∃ a b, x = .bl a ∧ y = .bl b ∧ Q (.bl (!decide (a = b))) H) := by
  intro pins s σ H x y v u Q I rx ry h
  obtain ⟨a, b, rfl, rfl, q⟩ := h
  cases (show v = Value.bool a from rx)
  cases (show u = Value.bool b from ry)
  by_cases e : a = b
  · subst e
    exact wpAny_isNot_self rfl ⟨.bl false, H, I, rfl, by simpa using q⟩
  · exact wpAny_isNot_other rfl (fun z => e (Value.bool.inj z)) ⟨.bl true, H, I, rfl, by simpa [e] using q⟩
def gIs : R2 := rOr (fun x y H Q => y = .non ∧ Q (.bl (decide (x = .non))) H) (fun x y H Q => ∃ a b, x = .bl a ∧ y = .bl b ∧ Q (.bl (decide (a = b))) H)
theorem oIs : OpR X (compareOp .Is) gIs := op_isN.or op_isB
def gIsN : R2 := rOr (fun x y H Q => y = .non ∧ Q (.bl (!decide (x = .non))) H) (fun x y H Q => ∃ a b, x = .bl a ∧ y = .bl b ∧ Q (.bl (!decide (a = b))) H)
theorem oIsN : OpR X (compareOp .IsNot) gIsN := op_notN.or op_isNB
abbrev rInC (neg : Bool) : R2 := fun x y H Q => ∃ (c : Nat) (z : Str), x = .str ⟨#[c]⟩ ∧ y = .str z ∧ Q (.bl (if neg then !decide (c ∈ z.cps.toList) else decide (c ∈ z.cps.toList))) H
def rInD (neg : Bool) : R2 := fun y x H Q => (∃ a o, x = .ref a ∧ DGet H a y o ∧ Q (.bl (if neg then !o.isSome else o.isSome)) H) ∨ ∃ a kvs, x = .ref a ∧ y = .non ∧ Rd H a (.dK kvs) ∧ Q (.bl neg) H
theorem op_inD (hu : X.A.units + 1 < cLine) : OpR X (compareOp .In) (rInD false) := by
  intro pins s σ H y x iv u Q I ry rx h
  rcases h with ⟨a, o, rfl, g, q⟩ | ⟨a, kvs, rfl, rfl, g, q⟩
  · obtain rfl : u = Value.ref a := rx
    exact d_in hu I g ry fun s3 I3 => ⟨.bl o.isSome, H, I3, rfl, q⟩
  · obtain rfl : u = Value.ref a := rx
    obtain rfl : iv = Value.none := ry
    exact d_inNone I g fun s3 I3 => ⟨.bl false, H, I3, rfl, q⟩
theorem op_notInD (hu : X.A.units + 1 < cLine) : OpR X (compareOp .NotIn) (rInD true) := by
  intro pins s σ H y x iv u Q I ry rx h
  rcases h with ⟨a, o, rfl, g, q⟩ | ⟨a, kvs, rfl, rfl, g, q⟩
  · obtain rfl : u = Value.ref a := rx
    exact d_notIn hu I g ry fun s3 I3 => ⟨.bl (!o.isSome), H, I3, rfl, q⟩
  · obtain rfl : u = Value.ref a := rx
    obtain rfl : iv = Value.none := ry
    exact d_notInNone I g fun s3 I3 => ⟨.bl true, H, I3, rfl, q⟩
def gIn (K : PySem.W.Frag) : R2 := rOr (rIn K false) (rOr (rInC false) (rInD false))
theorem oIn {K : PySem.W.Frag} (hu : X.A.units + 64 < cLine) (hK : X.K = K := by rfl) : OpR X (compareOp .In) (gIn K) := by subst hK; exact op_in_seq.or (op_in_sign.or (op_inD (by omega)))
def gNotIn (K : PySem.W.Frag) : R2 := rOr (rIn K true) (rOr (rInC true) (rInD true))
theorem oNotIn {K : PySem.W.Frag} (hu : X.A.units + 64 < cLine) (hK : X.K = K := by rfl) : OpR X (compareOp .NotIn) (gNotIn K) := by subst hK; exact op_notIn_seq.or (op_notIn_sign.or (op_notInD (by omega)))
/-- d[k] -/
def rIxD : R2 := fun x y H Q => ∃ a v, x = .ref a ∧ DGet H a y (some v) ∧ Q v H
theorem ix_dict (hu : X.A.units + 1 < cLine) : IxR X rIxD := by
  intro value slice pins s σ H x y v u Q I rx ry h hs
  obtain ⟨a, z, rfl, g, q⟩ := h
  obtain rfl : v = Value.ref a := rx
  have hT := dict_typeIs I g
  unfold subscriptTail
  refine wpAny_bind ?_
  rw [getitemInPython_of_ne hT.not_modules]
  refine wpAny_bind (wpAny_specialOf hT PySem.F.slot_dict_getitem.lookup ?_)
  have fin : wpAny (model X.prog X.w) X.A (subscripted slice false (.ref a) u) (fun r s3 => wpAny (model X.prog X.w) X.A (letTemporaryGo value (.ref a) r >>= fun _ => pure r) (EP X pins σ Q) X.xe s3) X.xe s := by
    rw [hs]
    exact wpAny_operating (wpAny_mono (d_getItem hu I g ry (Q := EP X pins σ Q) fun w' s3 I3 rw' => ⟨z, H, I3, rw', q⟩) (fun r s3 h3 => wpAny_bind (wpAny_letTemporaryGo (wpAny_pure h3))) fun _ _ x => x)
  first
    | exact wpAny_pure (wpAny_bind fin)
    | exact wpAny_bind (wpAny_pure (wpAny_bind fin))
    | exact wpAny_bind fin
def gIx (K : PySem.W.Frag) : R2 := rOr (rIx K) rIxD
theorem oIx {K : PySem.W.Frag} (hu : X.A.units + 64 < cLine) (hK : X.K = K := by rfl) : IxR X (gIx K) := by subst hK; exact ix_seq.or (ix_dict (by omega))
/-- d[k] = v -/
def rSetD : TSet := fun o i v H R => ∃ a H', o = .ref a ∧ DPut H a i v H' ∧ R H'
theorem set_dict (hu : X.A.units + 1 < cLine) : PSet X rSetD := by
  intro pins s σ H o i v ov iv u Q I ro ri rv h
  obtain ⟨a, H', rfl, g, q⟩ := h
  obtain rfl : ov = Value.ref a := ro
  exact d_setItem hu I g ri rv fun s' I' => ⟨H', I', q⟩
def gSet : TSet := fun o i v H R => rSetL o i v H R ∨ rSetD o i v H R
theorem oSet (hu : X.A.units + 64 < cLine) : PSet X gSet := fun pins s σ H o i v ov iv u Q I ro ri rv h =>
  h.elim (set_list pins s σ H o i v ov iv u Q I ro ri rv) (set_dict (by omega) pins s σ H o i v ov iv u Q I ro ri rv)
theorem SlR.or {r r' : V → Option Int → Option Int → Hp → VK → Prop} (h : SlR X r) (h' : SlR X r') : SlR X fun x lo hi H Q => r x lo hi H Q ∨ r' x lo hi H Q :=
  fun pins s σ H x v vl vu lo hi sl Q I rx hs pl pu q => q.elim (h pins s σ H x v vl vu lo hi sl Q I rx hs pl pu) (h' pins s σ H x v vl vu lo hi sl Q I rx hs pl pu)
def gSl (K : PySem.W.Frag) : V → Option Int → Option Int → Hp → VK → Prop := fun x lo hi H Q => rSlL K x lo hi H Q ∨ (rSlT K x lo hi H Q ∨ rSlS x lo hi H Q)
theorem oSl {K : PySem.W.Frag} (hK : X.K = K := by rfl) : SlR X (gSl K) := by subst hK; exact SlR.or sl_list (SlR.or sl_tup sl_str)
abbrev RC := List V → Hp → VK → Prop
def gLen (K : PySem.W.Frag) : RC := fun xs H Q => (∃ x n, xs = [x] ∧ LenV K x H n ∧ Q (.int n) H) ∨ ∃ a kvs, xs = [V.ref a] ∧ H a = some (.dK kvs) ∧ Q (.int kvs.length) H
theorem oLen {K : PySem.W.Frag} (hK : X.K = K := by rfl) : CallR X (.builtin "len") (gLen K) := by subst hK; exact call_len.or call_lenD
/-! sorted, min, < of data -/
theorem each_zip {K : PySem.W.Frag} : ∀ {ps : List (V × PyData)} {us : List Value}, Vals (ps.map (·.1)) us → PySem.W.EachIs (fun u (b : V × PyData) => RelV b.1 u) us ps
  | [], us, r => by
    have r' : Vals [] us := r
    cases r'
    exact .nil
  | p :: ps, us, r => by
    have r' : Vals (p.1 :: ps.map (·.1)) us := r
    cases r' with
    | cons h t => exact .cons h (each_zip (K := K) t)
theorem each_vals : ∀ {ps : List (V × PyData)} {us : List Value}, PySem.W.EachIs (fun u (b : V × PyData) => RelV b.1 u) us ps → Vals (ps.map (·.1)) us
  | _, _, .nil => .nil
  | _, _, .cons h t => .cons h (each_vals t)
def rSortedD (K : PySem.W.Frag) : List V → Hp → VK → Prop := fun vs H Q => ∃ (a : Addr) (ps : List (V × PyData)), vs = [.ref a] ∧ SqL K H a (ps.map (·.1)) ∧ (∀ p ∈ ps, Dp K H p.1 p.2) ∧ PySem.W.AllAlike (ps.map (·.2)) ∧ PySem.W.Sortable (ps.map (·.2)) ∧
  (∀ p ∈ ps, p.2.depth ≤ 32) ∧ ∀ q, H q = none → Q (.ref q) (upd H q (.lst ((ps.mergeSort (PySem.W.dataLe false (·.2))).map (·.1))))
theorem cr_sortedD (hu : X.A.units + 64 < cLine) : CallR X (.builtin "sorted") (rSortedD X.K) := by
  intro pins s σ H vs us Q I r h
  obtain ⟨a, ps, rfl, hs, hd, hal, hk, hdep, q⟩ := h
  obtain ⟨its, rv, hl, hz⟩ := I.list hs
  rw [Vals.ref1 r]
  have e := each_zip (K := X.K) rv
  have er : PySem.W.EachIs (fun u (b : V × PyData) => ∃ as, Reads s.heap u b.2 as) its ps := by
    have : ∀ {ps : List (V × PyData)} {us : List Value}, (∀ p ∈ ps, Dp X.K H p.1 p.2) → PySem.W.EachIs (fun u (b : V × PyData) => RelV b.1 u) us ps → PySem.W.EachIs (fun u (b : V × PyData) => ∃ as, Reads s.heap u b.2 as) us ps := by
      intro ps us hd e
      induction e with
      | nil => exact .nil
      | cons h t ih => exact .cons (Dp.reads I _ _ _ (hd _ List.mem_cons_self) h) (ih fun p hp => hd p (List.mem_cons_of_mem _ hp))
    exact this hd e
  have hz' : ps.length ≤ sizeLine := by rw [List.length_map] at hz; exact hz
  refine PySem.W.sorted_data (β := V × PyData) (enc := Prod.snd) (R := fun u b => RelV b.1 u) hl.isList e er hal hk hz' (fun b hb => ?_) fun out hlen ho => ?_
  · have := hdep b hb
    omega
  · obtain ⟨ep, he'⟩ := PyProof.Rows.sortedAll_at s.heap its out.toArray
    have hv := each_vals ho
    have hlen2 : ((ps.mergeSort (PySem.W.dataLe false (·.2))).map (·.1)).length ≤ sizeLine := by rw [List.length_map, (List.mergeSort_perm ps _).length_eq]; exact hz'
    exact ⟨.ref _, upd H (s.heap.objs.size + 1) (.lst ((ps.mergeSort (PySem.W.dataLe false (·.2))).map (·.1))), I.laid (t' := s.toks) (fun _ _ => PyProof.Rows.sortedAll_old) (Nat.le_succ _) ⟨hlen2, out, ep, hv, he'⟩, rfl, q _ (I.hok.fresh (Nat.le_succ _))⟩
mutual
theorem reads_det {h : Heap} : ∀ (d : PyData) {e : PyData} {v : Value} {as bs : List Addr}, PySem.W.alike d d = true → Reads h v d as → Reads h v e bs → d = e
  | .none, _, _, _, _, _, r, r' => by cases r; cases r'; rfl
  | .bool _, _, _, _, _, _, r, r' => by cases r; cases r'; rfl
  | .int _, _, _, _, _, _, r, r' => by cases r; cases r'; rfl
  | .str _, _, _, _, _, _, r, r' => by cases r; cases r'; rfl
  | .list xs, _, _, _, _, hal, r, r' => by
    cases r with
    | list h1 h2 h3 h4 =>
      cases r' with
      | list k1 k2 k3 k4 =>
        cases h1.symm.trans k1
        cases h3.symm.trans k3
        rw [readsAll_det xs (by simpa [PySem.W.alike] using hal) h4 k4]
      | tuple k1 k2 k3 k4 =>
        cases h1.symm.trans k1
        exact absurd (Value.type.inj (h2.symm.trans k2)) (by decide)
      | dict k1 k2 k3 k4 k5 =>
        cases h1.symm.trans k1
        exact absurd (Value.type.inj (h2.symm.trans k2)) (by decide)
  | .tuple xs, _, _, _, _, hal, r, r' => by
    cases r with
    | tuple h1 h2 h3 h4 =>
      cases r' with
      | tuple k1 k2 k3 k4 =>
        cases h1.symm.trans k1
        cases h3.symm.trans k3
        rw [readsAll_det xs (by simpa [PySem.W.alike] using hal) h4 k4]
      | list k1 k2 k3 k4 =>
        cases h1.symm.trans k1
        exact absurd (Value.type.inj (h2.symm.trans k2)) (by decide)
      | dict k1 k2 k3 k4 k5 =>
        cases h1.symm.trans k1
        exact absurd (Value.type.inj (h2.symm.trans k2)) (by decide)
  | .dict _, _, _, _, _, hal, _, _ => absurd hal (by simp [PySem.W.alike])
theorem readsAll_det {h : Heap} : ∀ (ds : List PyData) {es : List PyData} {vs : List Value} {as bs : List Addr}, PySem.W.alikeAll ds ds = true → ReadsAll h vs ds as → ReadsAll h vs es bs → ds = es
  | [], _, _, _, _, _, r, r' => by cases r; cases r'; rfl
  | d :: ds, _, _, _, _, hal, r, r' => by
    cases r with
    | cons h1 h2 =>
      cases r' with
      | cons k1 k2 => rw [reads_det d (PySem.W.alike_all_cons hal).1 h1 k1, readsAll_det ds (PySem.W.alike_all_cons hal).2 h2 k2]
end
def rMinD (K : PySem.W.Frag) : List V → Hp → VK → Prop := fun vs H Q => ∃ (a : Addr) (xs : List V) (d : PyData) (ds : List PyData), vs = [.ref a] ∧ SqL K H a xs ∧ DpAll K H xs (d :: ds) ∧ PySem.W.AlikeAll (d :: ds) ∧
  PyData.depthAll (d :: ds) ≤ 32 ∧ ∀ (i : Nat) v, xs[i]? = some v → (d :: ds)[i]? = some (PySem.W.minD d ds) → Q v H
theorem DpAll.at {K : PySem.W.Frag} {H : Hp} : ∀ {vs : List V} {ds : List PyData} {i : Nat} {v : V}, DpAll K H vs ds → vs[i]? = some v → ∃ d, ds[i]? = some d ∧ Dp K H v d
  | _, _, _, _, .nil, h => by simp at h
  | _, _, 0, _, .cons h _, e => by
    have e1 := Option.some.inj e
    rw [← e1]; exact ⟨_, rfl, h⟩
  | _, _, i + 1, _, .cons _ t, e => by
    obtain ⟨d, h1, h2⟩ := DpAll.at (i := i) t (by simpa using e)
    exact ⟨d, by simpa using h1, h2⟩
theorem vals_at : ∀ {vs : List V} {us : List Value} {i : Nat} {u : Value}, Vals vs us → us[i]? = some u → ∃ v, vs[i]? = some v ∧ RelV v u
  | _, _, _, _, .nil, h => by simp at h
  | _, _, 0, _, .cons h _, e => by
    have e1 := Option.some.inj e
    rw [← e1]; exact ⟨_, rfl, h⟩
  | _, _, i + 1, _, .cons _ t, e => by
    obtain ⟨d, h1, h2⟩ := vals_at (i := i) t (by simpa using e)
    exact ⟨d, by simpa using h1, h2⟩
theorem cr_minD (hc : X.calm = true) (hu : X.A.units + 64 < cLine) : CallR X (.builtin "min") (rMinD X.K) := by
  intro pins s σ H vs us Q I r h
  obtain ⟨a, xs, d, ds, rfl, hs, hd, hal, hdep, q⟩ := h
  obtain ⟨its, rv, hl, hz⟩ := I.list hs
  rw [Vals.ref1 r]
  obtain ⟨as, ra⟩ := Dp.readsAll I _ _ _ hd rv
  refine PySem.W.min_list_data (I.ok.hd hc) hl.isList (as := as) (x := d) (xs := ds) ra hal (by omega) fun i v h' tk bs hi rd hk => ?_
  have hi' : its[i]? = some v := by rw [← Array.getElem?_toList] at hi; exact hi
  obtain ⟨x, hx, rx⟩ := vals_at rv hi'
  obtain ⟨dx, hdx, dpx⟩ := DpAll.at hd hx
  obtain ⟨as2, rd2⟩ := Dp.reads I _ _ _ dpx rx
  have hm : dx ∈ d :: ds := List.mem_of_getElem? hdx
  have e := reads_det dx (hal.1 dx hm dx hm) (PyProof.Rows.Reads.keeps hk rd2) rd
  exact ⟨x, H, I.kept hk, rx, q i x hx (by rw [hdx, e])⟩
def gMin (K : PySem.W.Frag) : RC := fun xs H Q => (∃ i j, xs = [.int i, .int j] ∧ Q (.int (if j < i then j else i)) H) ∨ (rMin K xs H Q ∨ rMinD K xs H Q)
theorem oMin {K : PySem.W.Frag} (hc : X.calm = true) (hu : X.A.units + 64 < cLine) (hK : X.K = K := by rfl) : CallR X (.builtin "min") (gMin K) := by subst hK; exact (call_min2 hc).or ((cr_min hc).or (cr_minD hc hu))
def gMax (K : PySem.W.Frag) : RC := fun xs H Q => (∃ i j, xs = [.int i, .int j] ∧ Q (.int (if j > i then j else i)) H) ∨ rMax K xs H Q
theorem oMax {K : PySem.W.Frag} (hc : X.calm = true) (hu : X.A.units + 64 < cLine) (hK : X.K = K := by rfl) : CallR X (.builtin "max") (gMax K) := by subst hK; exact (call_max2 hc).or (cr_max hc)
def gSum (K : PySem.W.Frag) : RC := rSum K
theorem oSum {K : PySem.W.Frag} (hc : X.calm = true) (hK : X.K = K := by rfl) : CallR X (.builtin "sum") (gSum K) := by subst hK; exact cr_sum hc
def rSortedKI : RC := fun xs H Q => ∃ (a : Addr) (kvs : List (Key × V)) (ks : List Int), xs = [.ref a] ∧ Rd H a (.dK kvs) ∧ kvs.map (·.1) = ks.map Sum.inl ∧ ks.length < 64 ∧
  ∀ (ys : List Int) (p : Addr), ys.Perm ks → ys.Pairwise (· ≤ ·) → H p = none → Q (.ref p) (upd H p (.lst (ys.map V.int)))
def gSorted (K : PySem.W.Frag) : RC := fun xs H Q => rSortedI K xs H Q ∨ (rSortedS K xs H Q ∨ (rSortedD K xs H Q ∨ rSortedKI xs H Q))
theorem gSorted.d {K : PySem.W.Frag} {xs : List V} {H : Hp} {Q : VK} (h : rSortedD K xs H Q) : gSorted K xs H Q := .inr (.inr (.inl h))
theorem gSorted.k {K : PySem.W.Frag} {xs : List V} {H : Hp} {Q : VK} (h : rSortedKI xs H Q) : gSorted K xs H Q := .inr (.inr (.inr h))
theorem oSorted {K : PySem.W.Frag} (hc : X.calm = true) (hu : X.A.units + 64 < cLine) (hK : X.K = K := by rfl) : CallR X (.builtin "sorted") (gSorted K) := by subst hK; exact cr_sortedI.or (cr_sortedS.or ((cr_sortedD hu).or (call_sortedDI hc)))
def gInt : RC := fun xs H Q => ((∃ i, xs = [.int i] ∧ Q (.int i) H) ∨ ∃ k, xs = [.bl k] ∧ Q (.int (if k then 1 else 0)) H) ∨
  ∃ a n, xs = [.str a] ∧ PySem.intText? a = some n ∧ a.length ≤ 640 ∧ Q (.int n) H
theorem oInt : CallR X (.type "int") gInt := call_int1.or call_int_str
def rStr1 : RC := fun xs H Q => ∃ b : Bool, xs = [.bl b] ∧ Q (.str (if b then "True" else "False")) H
def rStrN : RC := fun xs H Q => xs = [.non] ∧ Q (.str "None") H
def gStr (K : PySem.W.Frag) : RC := fun xs H Q => ((∃ i, xs = [.int i] ∧ i.natAbs.log2 < 1920 ∧ Q (.str (toString i)) H) ∨ ∃ a, xs = [.str a] ∧ Q (.str a) H) ∨ (rStrD K xs H Q ∨ (rStr1 xs H Q ∨ rStrN xs H Q))
theorem call_str_bl : CallR X (.type "str") rStr1 := by
  intro pins s σ H vs us Q I r h
  obtain ⟨b, rfl, q⟩ := h
  cases r with
  | cons h t =>
    cases t
    cases (show _ = Value.bool b from h)
    exact PySem.P.str_of_bool ⟨.str _, H, I.tok _, ⟨_, rfl⟩, q⟩
theorem call_str_non : CallR X (.type "str") rStrN := by
  intro pins s σ H vs us Q I r h
  obtain ⟨rfl, q⟩ := h
  cases r with
  | cons h t =>
    cases t
    cases (show _ = Value.none from h)
    exact PySem.P.str_of_none ⟨.str _, H, I.tok _, ⟨_, rfl⟩, q⟩
theorem oStr {k : Nat} {K : PySem.W.Frag} (hr : RoomG k X.A) (hK : X.K = K := by rfl) : CallR X (.type "str") (gStr K) := by
  subst hK
  exact (call_str_int.or SkE.call_str_str).or ((call_strD hr.units hr.gd).or (call_str_bl.or call_str_non))
def gIsi (K : PySem.W.Frag) : RC := fun xs H Q => rIsi K xs H Q ∨ rIsiT K xs H Q
theorem oIsi {K : PySem.W.Frag} (hK : X.K = K := by rfl) : CallR X (.builtin "isinstance") (gIsi K) := by subst hK; exact call_isi.or call_isiT
def gAbs : RC := fun xs H Q => ∃ i, xs = [.int i] ∧ Q (.int (if i < 0 then -i else i)) H
theorem oAbs : CallR X (.builtin "abs") gAbs := call_abs
def rListD : RC := fun xs H Q => ∃ (a : Addr) (kvs : List (Key × V)), xs = [.ref a] ∧ Rd H a (.dK kvs) ∧ ∀ p, H p = none → Q (.ref p) (upd H p (.lst (kvs.map fun kv => kV kv.1)))
def gList (K : PySem.W.Frag) : RC := fun xs H Q => (∃ p ys, xs = [.ref p] ∧ (SqL K H p ys ∨ SqT K H p ys) ∧ ∀ l, H l = none → Q (.ref l) (upd H l (.lst ys))) ∨ rListD xs H Q
theorem oList {K : PySem.W.Frag} (hc : X.calm = true) (hK : X.K = K := by rfl) : CallR X (.type "list") (gList K) := by subst hK; exact call_list_of.or (call_listD hc)
/-- dict(..) of a list of pairs, of a dict -/
def rDictP (K : PySem.W.Frag) : RC := fun xs H Q => ∃ (a : Addr) (ps : List Addr) (kvs : List (Key × V)), xs = [.ref a] ∧ SqL K H a (ps.map V.ref) ∧ Paired (fun p kv => SqT K H p [kV kv.1, kv.2]) ps kvs ∧ ∀ p, H p = none → Q (.ref p) (upd H p (.dK (mergeK [] kvs)))
def rDictD : RC := fun xs H Q => ∃ (a : Addr) (kvs : List (Key × V)), xs = [.ref a] ∧ Rd H a (.dK kvs) ∧ ∀ p, H p = none → Q (.ref p) (upd H p (.dK kvs))
def gDict (K : PySem.W.Frag) : RC := fun xs H Q => rDictP K xs H Q ∨ rDictD xs H Q
theorem oDict {K : PySem.W.Frag} (hc : X.calm = true) (hK : X.K = K := by rfl) : CallR X (.type "dict") (gDict K) := by subst hK; exact (call_dictP hc).or call_dictD
def gAll (K : PySem.W.Frag) : RC := rAll K
theorem oAll {K : PySem.W.Frag} (hc : X.calm = true) (hK : X.K = K := by rfl) : CallR X (.builtin "all") (gAll K) := by subst hK; exact cr_all hc
def gAny (K : PySem.W.Frag) : RC := rAny K
theorem oAny {K : PySem.W.Frag} (hc : X.calm = true) (hK : X.K = K := by rfl) : CallR X (.builtin "any") (gAny K) := by subst hK; exact cr_any hc
def gTuple (K : PySem.W.Frag) : RC := fun xs H Q => ∃ p ys, xs = [.ref p] ∧ ((SqL K H p ys ∧ ∀ l, H l = none → Q (.ref l) (upd H l (.tup ys))) ∨ (SqT K H p ys ∧ Q (.ref p) H))
theorem oTuple {K : PySem.W.Frag} (hK : X.K = K := by rfl) : CallR X (.type "tuple") (gTuple K) := by subst hK; exact call_tuple_of
section
variable {o e e2 : Expr} {es : List Expr} {to te : TE} {t ta : TA} {name : Str} {apos cpos pos p : Pos} {T id : String} {r : V → List V → Hp → VK → Prop} {K : PySem.W.Frag} {tg : Expr}
theorem pe_bm0K (pa : PlainAttrs T) (slot : Slot T name id) (hty : typeOf (.builtin id) = pure (.type "method_descriptor")) (hm : MtR X id r) (ho : PE X o to) (hK : X.K = K := by rfl)
    (hbase : attributeBase o name X.env (eval o X.env) = eval o X.env := by rfl) (hline : (apos.endLine == cpos.line) = true := by rfl) : PE X (.Call (.Attribute o name apos) [] [] cpos) (tBM0 K T r to) := by
  subst hK; exact pe_bm0 pa slot hty hm ho hbase hline
theorem pe_bmK (pa : PlainAttrs T) (slot : Slot T name id) (hty : typeOf (.builtin id) = pure (.type "method_descriptor")) (hm : MtR X id r) (ho : PE X o to) (ha : PA X (e :: es) t) (hK : X.K = K := by rfl)
    (hbase : attributeBase o name X.env (eval o X.env) = eval o X.env := by rfl)
    (hfew : ((backTo cpos (starEach (e :: es) X.env)).all (fun x => !x.1) && (backToKw cpos (keywordEach [] X.env)).all (fun x => x.1.isSome)
      && decide ((e :: es).length + ([] : List Keyword).length + (if ([] : List Keyword).isEmpty then 0 else 1) < 30)) = true := by rfl)
    (hline : (apos.endLine == cpos.line) = true := by rfl) (hs : starEach (e :: es) X.env = (false, eval e X.env) :: starEach es X.env := by rfl) (hplain : (backTo cpos (starEach es X.env)).any (·.1) = false := by rfl) :
    PE X (.Call (.Attribute o name apos) (e :: es) [] cpos) (tBM K T r to t) := by
  subst hK; exact pe_bm pa slot hty hm ho ha hbase hfew hline hs hplain
theorem pg_tupK {es : List Expr} {k : Nat} {t : TGs} {n : Nat} (hc : X.calm = true) (h : PGs X es t) (hK : X.K = K := by rfl)
    (hn : (assignEach es X.env).length = n := by rfl) (hst : (assignEach es X.env).findIdx? (·.1) = none := by rfl) : PG X (.Tuple es k pos) (gTup K n t) := by
  subst hK; exact pg_tup hc h hn hst
/-- (a, b, ..) = a tuple, or a list -/
def gTupG (K : PySem.W.Frag) (n : Nat) (t : TGs) : TG := fun v σ H Q => gTup K n t v σ H Q ∨ gUnl K n t v σ H Q
theorem pg_tupG {es : List Expr} {k : Nat} {t : TGs} {n : Nat} (hc : X.calm = true) (h : PGs X es t) (hK : X.K = K := by rfl)
    (hn : (assignEach es X.env).length = n := by rfl) (hst : (assignEach es X.env).findIdx? (·.1) = none := by rfl) : PG X (.Tuple es k pos) (gTupG K n t) := by
  subst hK
  exact ⟨fun pins s σ H v u Q I r hw => hw.elim ((pg_tup hc h hn hst).run pins s σ H v u Q I r) ((pg_unl hc h hn hst).run pins s σ H v u Q I r)⟩
theorem pe_revLK {k : Nat} {p1 p2 p3 : Pos} (he : PE X e te) (hK : X.K = K := by rfl) : PE X (.Subscript e (.Slice none none (some (.UnaryOp .USub (.Constant (.int 1) k p1) p2)) p3) pos) (tRevL K te) := by subst hK; exact pe_revL he
theorem pi_listK (hl : PE X e te) (hK : X.K = K := by rfl) : PI X tg e (iList K te) := by subst hK; exact pi_list hl
theorem pi_tupK (hl : PE X e te) (hK : X.K = K := by rfl) : PI X tg e (iTup K te) := by subst hK; exact pi_tup hl
theorem pi_enumK {tpos : Pos} {elts : List Expr} {kk : Nat} (hg : Gl X "enumerate") (hm : X.mg "enumerate" = none) (ha : PA X [e] ta) (hK : X.K = K := by rfl) (hs : starEach [e] X.env = [(false, eval e X.env)] := by rfl) :
    PI X (.Tuple elts kk tpos) (.Call (.Name "enumerate" p) [e] [] pos) (iEnum K ta) := by subst hK; exact pi_enum hg hm ha hs
theorem pi_zipAK {tpos : Pos} {elts : List Expr} {kk : Nat} (hg : Gl X "zip") (hm : X.mg "zip" = none) (ha : PA X [e, e2] ta) (hK : X.K = K := by rfl)
    (hs : starEach [e, e2] X.env = (false, eval e X.env) :: starEach [e2] X.env := by rfl) (hpl : (backTo pos (starEach [e2] X.env)).any (·.1) = false := by rfl) :
    PI X (.Tuple elts kk tpos) (.Call (.Name "zip" p) [e, e2] [] pos) (RZ.iZipA K ta) := by subst hK; exact RZ.pi_zipA hg hm ha hs hpl
theorem pi_reversedK (hg : Gl X "reversed") (hm : X.mg "reversed" = none) (ha : PA X [e] ta) (hK : X.K = K := by rfl) (hs : starEach [e] X.env = [(false, eval e X.env)] := by rfl) :
    PI X tg (.Call (.Name "reversed" p) [e] [] pos) (iRev K ta) := by subst hK; exact pi_reversed hg hm ha hs
def rJoin (K : PySem.W.Frag) : V → List V → Hp → VK → Prop := fun x xs H Q => ∃ a p, ∃ ys : List Str, x = .str a ∧ xs = [.ref p] ∧ (SqL K H p (ys.map V.str) ∨ SqT K H p (ys.map V.str)) ∧
      (ys.map (·.length)).sum + ys.length * a.length ≤ 16777216 ∧ Q (.str (Txt.join a ys)) H
theorem pe_joinK (ho : PE X o to) (he : PE X e te) (hK : X.K = K := by rfl) (hs : starEach [e] X.env = [(false, eval e X.env)] := by rfl) (hbase : attributeBase o "join" X.env (eval o X.env) = eval o X.env := by rfl) (hline : (apos.endLine == pos.line) = true := by rfl) :
    PE X (.Call (.Attribute o "join" apos) [e] [] pos) (tM1 (rJoin K) to te) := by subst hK; exact pe_join ho he hs hbase hline
def tTruK (K : PySem.W.Frag) (ta : TE) : TT := fun σ H Q => ta σ H fun x H' => ∃ k, TruV K x H' k ∧ Q k H'
theorem pt_truthK (ha : PE X e te) (he : ∀ whole, isTrue e X.env whole = (do let v ← whole; standAt e.pos; holding [v] (truthy v))) (hK : X.K = K := by rfl) : PT X e (tTruK K te) := by subst hK; exact pt_truth ha he
end
end

/-! ### defs by name -/
structure Has (P : Program) (w : World) (K : PySem.W.Frag) (mg : Str → Option Value) (base : Heap) (k : Nat) (x : Str) (ps : List Str) (sp : Sp) : Prop where
  ex : ∃ (f : Addr) (fd : FuncData), mg x = some (.ref f) ∧ PySem.W.keepIn K (.ref f) = true ∧ Binds K fd ps [] ∧ FnG P w K mg base CX0 k f fd ps sp
section
variable {X : Cx} {k : Nat} {x : Str} {ps : List Str} {sp : Sp} {e : Expr} {es : List Expr} {t : TA} {p pos : Pos}
theorem pe_callH (h : Has X.prog X.w X.K X.mg X.base k x ps sp) (hr : RoomG k X.A) (hg : Gl X x) (ha : PA X (e :: es) t) (hdb : (x == ("__debug__" : Str)) = false := by decide)
    (he : starEach (e :: es) X.env = (false, eval e X.env) :: starEach es X.env := by rfl) (hpl : (backTo pos (starEach es X.env)).any (·.1) = false := by rfl) :
    PE X (.Call (.Name x p) (e :: es) [] pos) (tCall sp [] E0 t) := by
  obtain ⟨f, fd, hm, hk, hb, F⟩ := h
  exact pe_callG F hr hg hm hk hb .nil pass0 ha hdb he hpl
theorem pe_callH0 (h : Has X.prog X.w X.K X.mg X.base k x ps sp) (hr : RoomG k X.A) (hg : Gl X x) (hdb : (x == ("__debug__" : Str)) = false := by decide) :
    PE X (.Call (.Name x p) [] [] pos) (tCall sp [] E0 tNil) := by
  obtain ⟨f, fd, hm, hk, hb, F⟩ := h
  exact pe_callG0 F hr hg hm hk hb .nil pass0 hdb
end
/-- a def as the top leaves it -/
structure Dfn (K : PySem.W.Frag) (mg : Str → Option Value) (x : Str) (st : Stmt) (ps : List Str) : Prop where
  ex : ∃ (f : Addr) (fd : FuncData), mg x = some (.ref f) ∧ Fun K x x st f fd ∧ Binds K fd ps []
theorem Dfn.has {P : Program} {w : World} {K : PySem.W.Frag} {mg : Str → Option Value} {base : Heap} {k : Nat} {x : Str} {st : Stmt} {ps : List Str} {sp : Sp} (D : Dfn K mg x st ps)
    (h : ∀ f fd, Fun K x x st f fd → FnG P w K mg base CX0 k f fd ps sp) : Has P w K mg base k x ps sp := by
  obtain ⟨f, fd, hm, F, hb⟩ := D
  exact ⟨f, fd, hm, F.kp, hb, h f fd F⟩
/-- the built-ins' names are no globals of the text -/
structure Blt (mg : Str → Option Value) : Prop where
  len_ : mg "len" = none
  sum_ : mg "sum" = none
  min_ : mg "min" = none
  max_ : mg "max" = none
  sorted_ : mg "sorted" = none
  all_ : mg "all" = none
  any_ : mg "any" = none
  int_ : mg "int" = none
  str_ : mg "str" = none
  bool_ : mg "bool" = none
  list_ : mg "list" = none
  tuple_ : mg "tuple" = none
  dict_ : mg "dict" = none
  set_ : mg "set" = none
  zip_ : mg "zip" = none
  range_ : mg "range" = none
  enumerate_ : mg "enumerate" = none
  isinstance_ : mg "isinstance" = none
  abs_ : mg "abs" = none
end G

namespace G
open PySem PySem.Spec PyProof.Rows L2

/-- a new object, o -/
def AtNew (Q : VK) (o : HO) (H : Hp) : Prop := ∀ p, H p = none → Q (.ref p) (upd H p o)
def NewL (Q : VK) (xs : List V) (H : Hp) : Prop := xs.length ≤ sizeLine ∧ AtNew Q (.lst xs) H
def NewT (Q : VK) (xs : List V) (H : Hp) : Prop := xs.length ≤ sizeLine ∧ AtNew Q (.tup xs) H
theorem szl : (1048576 : Nat) ≤ sizeLine := by rw [sizeLine_eq]; decide
theorem szl' {n : Nat} (h : n ≤ 1048576) : n ≤ sizeLine := Nat.le_trans h szl
theorem szl'' {n : Nat} (h : n < 1048576) : n < sizeLine := Nat.lt_of_lt_of_le h szl
theorem NewL.mk {Q : VK} {xs : List V} {H : Hp} (h : xs.length ≤ 1048576) (q : AtNew Q (.lst xs) H) : NewL Q xs H := ⟨szl' h, q⟩
theorem NewT.mk {Q : VK} {xs : List V} {H : Hp} (h : xs.length ≤ 1048576) (q : AtNew Q (.tup xs) H) : NewT Q xs H := ⟨szl' h, q⟩
/-! ### a reading, step by step -/
section
variable {σ : L2.St} {H : Hp} {Q : VK} {n b c : L2.St → Hp → Prop} {r : VK} {D : Ends} {t u : TS} {te ta tb : TE} {tt tu : TT} {ts tr : TA} {g : TG} {i : Nat} {v : V} {K : PySem.W.Frag}
theorem g_seq (h : t ⟨u ⟨n, r, b, c⟩, r, b, c⟩ σ H) : tSeq t u ⟨n, r, b, c⟩ σ H := h
theorem g_set (h : te σ H fun x H1 => n (σ.set i (some x)) H1) : tAsg te (gName i) ⟨n, r, b, c⟩ σ H := h
theorem g_asg (h : te σ H fun x H1 => g x σ H1 n) : tAsg te g ⟨n, r, b, c⟩ σ H := h
theorem g_ret (h : te σ H r) : tRet te ⟨n, r, b, c⟩ σ H := h
theorem g_drop (h : te σ H fun _ H1 => n σ H1) : tDrop te ⟨n, r, b, c⟩ σ H := h
theorem g_if (h : tt σ H fun k H1 => if k = true then t D σ H1 else u D σ H1) : tIfS tt t u D σ H := h
theorem g_next (h : n σ H) : tNext ⟨n, r, b, c⟩ σ H := h
theorem g_brk (h : b σ H) : tBreak ⟨n, r, b, c⟩ σ H := h
theorem g_cont (h : c σ H) : tCont ⟨n, r, b, c⟩ σ H := h
theorem g_par {i j : Nat} (h : ts σ H fun vs H1 => ∃ v w, vs = [v, w] ∧ n ((σ.set i (some v)).set j (some w)) H1) : tPar i j ts ⟨n, r, b, c⟩ σ H := h
theorem g_par2 {x y : V} {P : V → V → Prop} (h : P x y) : ∃ v w, [x, y] = [v, w] ∧ P v w := ⟨x, y, rfl, h⟩
theorem g_aug {ti : TIp} {x : V} (e : σ[i]? = some (some x)) (h : te σ H fun y H1 => ti x y H1 fun z H2 => n (σ.set i (some z)) H2) : tAug i te ti ⟨n, r, b, c⟩ σ H := ⟨x, e, h⟩
theorem g_ipI {f : Int → Int → Int} {x y : Int} (h : Q (.int (f x y)) H) : ipI f (.int x) (.int y) H Q := ⟨x, y, rfl, rfl, h⟩
theorem g_var (e : σ[i]? = some (some v)) (h : Q v H) : tVar i σ H Q := ⟨v, e, h⟩
theorem g_c (h : Q v H) : tC v σ H Q := h
theorem g_op {r : R2} (h : ta σ H fun x H1 => tb σ H1 fun y H2 => r x y H2 Q) : tOp r ta tb σ H Q := h
theorem g_un {r : V → Hp → VK → Prop} (h : ta σ H fun x H1 => r x H1 Q) : tUn r ta σ H Q := h
theorem g_neg {i : Int} (h : Q (.int (-i)) H) : rU (fun i => .int (-i)) (.int i) H Q := ⟨i, rfl, h⟩
theorem g_cons {R : List V → Hp → Prop} (h : ta σ H fun x H1 => tr σ H1 fun xs H2 => R (x :: xs) H2) : tCons ta tr σ H R := h
theorem g_nil {R : List V → Hp → Prop} (h : R [] H) : tNil σ H R := h
theorem g_cb {r : RC} (h : ts σ H fun vs H1 => r vs H1 Q) : tCB r ts σ H Q := h
theorem g_call {sp : Sp} {E : XK} (h : ts σ H fun vs H1 => sp (vs ++ []) H1 Q E) : tCall sp [] E ts σ H Q := h
theorem g_call1 {sp : Sp} {E : XK} {x : V} (h : sp [x] H Q E) : sp ([x] ++ []) H Q E := h
theorem g_call2 {sp : Sp} {E : XK} {x y : V} (h : sp [x, y] H Q E) : sp ([x, y] ++ []) H Q E := h
theorem g_call3 {sp : Sp} {E : XK} {x y z : V} (h : sp [x, y, z] H Q E) : sp ([x, y, z] ++ []) H Q E := h
theorem g_call4 {sp : Sp} {E : XK} {x y z w : V} (h : sp [x, y, z, w] H Q E) : sp ([x, y, z, w] ++ []) H Q E := h
theorem g_lst (h : ts σ H (NewL Q)) : tLst ts σ H Q := h
theorem g_tup (h : ts σ H (NewT Q)) : tTup ts σ H Q := h
theorem g_B {R : Bool → Hp → Prop} (h : te σ H fun x H1 => ∃ c, x = .bl c ∧ R c H1) : tB te σ H R := h
theorem g_test {R : Bool → Hp → Prop} (h : te σ H fun x H1 => ∃ c, x = .bl c ∧ R c H1) : tTest te σ H R := h
theorem g_bl {k : Bool} {R : Bool → Prop} (h : R k) : ∃ c, V.bl k = .bl c ∧ R c := ⟨k, rfl, h⟩
theorem g_and {R : Bool → Hp → Prop} (h : tt σ H fun c H1 => if c = true then tu σ H1 R else R false H1) : tAnd tt tu σ H R := h
theorem g_or {R : Bool → Hp → Prop} (h : tt σ H fun c H1 => if c = true then R true H1 else tu σ H1 R) : tOr tt tu σ H R := h
theorem g_not {R : Bool → Hp → Prop} (h : tt σ H fun c H1 => R (!c) H1) : tNot tt σ H R := h
theorem g_yes {R : Bool → Hp → Prop} (h : R true H) : tYes σ H R := h
theorem g_andV (h : ta σ H fun x H1 => ∃ c, x = .bl c ∧ if c = true then tb σ H1 Q else Q (.bl false) H1) : tAndV ta tb σ H Q := h
theorem g_orV (h : ta σ H fun x H1 => ∃ c, x = .bl c ∧ if c = true then Q (.bl true) H1 else tb σ H1 Q) : tOrV ta tb σ H Q := h
theorem g_notV (h : ta σ H fun x H1 => ∃ c, x = .bl c ∧ Q (.bl (!c)) H1) : tNotV ta σ H Q := h
theorem g_ifE (h : tt σ H fun c H1 => if c = true then ta σ H1 Q else tb σ H1 Q) : tIf tt ta tb σ H Q := h
theorem g_sl {r : V → Option Int → Option Int → Hp → VK → Prop} {tl th : TO} (h : te σ H fun x H1 => tl σ H1 fun l H2 => th σ H2 fun u H3 => r x l u H3 Q) : tSl r te tl th σ H Q := h
theorem g_noPart {R : Option Int → Hp → Prop} (h : R none H) : tNoPart σ H R := h
theorem g_part {R : Option Int → Hp → Prop} (h : te σ H fun x H1 => ∃ i, x = .int i ∧ R (some i) H1) : tPart te σ H R := h
theorem g_int {k : Int} {R : Int → Prop} (h : R k) : ∃ c, V.int k = .int c ∧ R c := ⟨k, rfl, h⟩
theorem g_bm {T : String} {r : V → List V → Hp → VK → Prop} {to : TE} (h : to σ H fun x H1 => tyV K T x H1 ∧ ts σ H1 fun xs H2 => r x xs H2 Q) : tBM K T r to ts σ H Q := h
theorem g_bm0 {T : String} {r : V → List V → Hp → VK → Prop} {to : TE} (h : to σ H fun x H1 => tyV K T x H1 ∧ r x [] H1 Q) : tBM0 K T r to σ H Q := h
theorem g_m1 {r : V → List V → Hp → VK → Prop} {to : TE} (h : to σ H fun x H1 => (∃ a, x = .str a) ∧ te σ H1 fun y H2 => r x [y] H2 Q) : tM1 r to te σ H Q := h
theorem g_isStr {z : Str} : ∃ a, V.str z = .str a := ⟨z, rfl⟩
theorem g_sub {to ti : TE} {tset : TSet} {R : L2.St → Hp → Prop} (h : to σ H fun o H1 => ti σ H1 fun i H2 => tset o i v H2 fun H3 => R σ H3) : gSub to ti tset v σ H R := h
theorem g_name {R : L2.St → Hp → Prop} (h : R (σ.set i (some v)) H) : gName i v σ H R := h
theorem g_gtup {k : Nat} {gs : TGs} {R : L2.St → Hp → Prop} {a : Addr} {xs : List V} (h1 : SqT K H a xs) (h2 : xs.length = k) (h : gs xs σ H R) : gTup K k gs (.ref a) σ H R := ⟨a, xs, rfl, h1, h2, h⟩
theorem g_gtupG {k : Nat} {gs : TGs} {R : L2.St → Hp → Prop} {a : Addr} {xs : List V} (h1 : SqT K H a xs) (h2 : xs.length = k) (h : gs xs σ H R) : gTupG K k gs (.ref a) σ H R := .inl ⟨a, xs, rfl, h1, h2, h⟩
theorem g_gunl {k : Nat} {gs : TGs} {R : L2.St → Hp → Prop} {a : Addr} {xs : List V} (h1 : SqL K H a xs) (h2 : xs.length = k) (h : gs xs σ H R) : gTupG K k gs (.ref a) σ H R := .inr ⟨a, xs, rfl, h1, h2, h⟩
def RevB (K : PySem.W.Frag) (Q : VK) (x : V) (H : Hp) : Prop := ∃ a xs, x = .ref a ∧ SqL K H a xs ∧ AtNew Q (.lst xs.reverse) H
theorem g_revL (h : te σ H (RevB K Q)) : tRevL K te σ H Q := h
theorem rev_lst {a : Addr} {xs : List V} (h1 : H a = some (.lst xs)) (h : AtNew Q (.lst xs.reverse) H) : RevB K Q (.ref a) H := ⟨a, xs, rfl, .inl (.inl h1), h⟩
theorem g_chain {r r' : R2} {tc : TE} (h : ta σ H fun x H1 => tb σ H1 fun y H2 => r x y H2 fun z H3 => ∃ k, z = .bl k ∧ (if k = true then tc σ H3 fun w' H4 => r' y w' H4 Q else Q (.bl false) H3)) : tChain r r' ta tb tc σ H Q := h
theorem tuple_lst {a : Addr} {xs : List V} (h1 : H a = some (.lst xs)) (h : AtNew Q (.tup xs) H) : gTuple K [.ref a] H Q := ⟨a, xs, rfl, .inl ⟨.inl (.inl h1), h⟩⟩
theorem list_lst {a : Addr} {xs : List V} (h1 : H a = some (.lst xs)) (h : AtNew Q (.lst xs) H) : gList K [.ref a] H Q := .inl ⟨a, xs, rfl, .inl (.inl (.inl h1)), h⟩
theorem rev_ip {l : Addr} {xs : List V} (h1 : H l = some (.lst xs)) (h : Q .non (upd H l (.lst xs.reverse))) : rReverse (.ref l) [] H Q := ⟨l, xs, rfl, rfl, h1, h⟩
theorem clear_ip {l : Addr} {xs : List V} (h1 : H l = some (.lst xs)) (h : Q .non (upd H l (.lst []))) : rClear (.ref l) [] H Q := ⟨l, xs, rfl, rfl, h1, h⟩
theorem in_lst {x : V} {p : Addr} {xs : List V} (h1 : H p = some (.lst xs)) (hx : flatV x = true) (ha : xs.all flatV = true) (h : Q (.bl (inV x xs)) H) : gIn K x (.ref p) H Q := .inl ⟨p, xs, rfl, .inl (.inl (.inl h1)), hx, ha, h⟩
theorem nin_lst {x : V} {p : Addr} {xs : List V} (h1 : H p = some (.lst xs)) (hx : flatV x = true) (ha : xs.all flatV = true) (h : Q (.bl (!inV x xs)) H) : gNotIn K x (.ref p) H Q := .inl ⟨p, xs, rfl, .inl (.inl (.inl h1)), hx, ha, h⟩
theorem g_tyl {l : Addr} {xs : List V} {R : Prop} (h1 : H l = some (.lst xs)) (h : R) : tyV K "list" (.ref l) H ∧ R := ⟨.inl ⟨rfl, _, .inl (.inl h1)⟩, h⟩
theorem g_gcons {gs : TGs} {R : L2.St → Hp → Prop} {x : V} {xs : List V} (h : g x σ H fun σ' H' => gs xs σ' H' R) : gCons g gs (x :: xs) σ H R := ⟨x, xs, rfl, h⟩
theorem g_gnil {R : L2.St → Hp → Prop} (h : R σ H) : gNil [] σ H R := ⟨rfl, h⟩
theorem g_ite {p A B : Prop} [Decidable p] (h1 : p → A) (h2 : ¬ p → B) : if decide p = true then A else B := by
  by_cases h : p
  · rw [if_pos (decide_eq_true h)]; exact h1 h
  · rw [if_neg (by simpa using h)]; exact h2 h
theorem g_iteN {p A B : Prop} [Decidable p] (h1 : ¬ p → A) (h2 : p → B) : if (!decide p) = true then A else B := by
  by_cases h : p
  · rw [decide_eq_true h]; exact iteF (h2 h)
  · rw [decide_eq_false h]; exact iteT (h1 h)
theorem if_yes {p A B : Prop} [Decidable p] (hp : p) (h : A) : if decide p = true then A else B := by rw [if_pos (decide_eq_true hp)]; exact h
theorem if_no {p A B : Prop} [Decidable p] (hp : ¬ p) (h : B) : if decide p = true then A else B := by rw [if_neg (by simpa using hp)]; exact h
theorem if_nyes {p A B : Prop} [Decidable p] (hp : ¬ p) (h : A) : if (!decide p) = true then A else B := by rw [decide_eq_false hp]; exact iteT h
theorem if_nno {p A B : Prop} [Decidable p] (hp : p) (h : B) : if (!decide p) = true then A else B := by rw [decide_eq_true hp]; exact iteF h
theorem if_ny {A B : Prop} (h : B) : if (!true) = true then A else B := iteF h
theorem if_nn {A B : Prop} (h : A) : if (!false) = true then A else B := iteT h
theorem if_isS {α : Type} {x : α} {A B : Prop} (h : A) : if (some x).isSome = true then A else B := iteT h
theorem if_isN {α : Type} {A B : Prop} (h : B) : if (none : Option α).isSome = true then A else B := iteF h
theorem if_nisS {α : Type} {x : α} {A B : Prop} (h : B) : if (!(some x).isSome) = true then A else B := iteF h
theorem if_nisN {α : Type} {A B : Prop} (h : A) : if (!(none : Option α).isSome) = true then A else B := iteT h
theorem g_iteB {k : Bool} {A B : Prop} (h1 : k = true → A) (h2 : k = false → B) : if k = true then A else B := by
  cases k with
  | true => exact iteT (h1 rfl)
  | false => exact iteF (h2 rfl)
-- operations by values
theorem a_int {i j : Int} (h : Q (.int (i + j)) H) : gAdd K (.int i) (.int j) H Q := .inl ⟨i, j, rfl, rfl, h⟩
theorem a_str {i j : Str} (hl : i.length + j.length ≤ sizeLine) (h : Q (.str (i ++ j)) H) : gAdd K (.str i) (.str j) H Q := .inr (.inl ⟨i, j, rfl, rfl, hl, h⟩)
theorem a_lst {p q : Addr} {xs ys : List V} (h1 : H p = some (.lst xs)) (h2 : H q = some (.lst ys)) (hl : xs.length + ys.length ≤ sizeLine) (h : AtNew Q (.lst (xs ++ ys)) H) : gAdd K (.ref p) (.ref q) H Q :=
  .inr (.inr (.inl ⟨p, q, xs, ys, rfl, rfl, h1, h2, hl, h⟩))
theorem sub_int {i j : Int} (h : Q (.int (i - j)) H) : gMns (.int i) (.int j) H Q := ⟨i, j, rfl, rfl, h⟩
theorem m_int {i j : Int} (hc : CMul i j) (h : Q (.int (i * j)) H) : gMul (.int i) (.int j) H Q := .inl ⟨i, j, rfl, rfl, hc, h⟩
theorem m_str {z : Str} {n : Int} (hc : MulOk z n) (h : Q (.str (Txt.mul z n)) H) : gMul (.str z) (.int n) H Q := .inr (.inl ⟨z, n, rfl, rfl, hc, h⟩)
theorem mod_int {i j : Int} (hc : 0 < j) (h : Q (.int (i % j)) H) : gMod (.int i) (.int j) H Q := ⟨i, j, rfl, rfl, hc, h⟩
theorem div_int {i j : Int} (h0 : 0 < j) (h1 : j < 1073741824) (h : Q (.int (i / j)) H) : gDiv (.int i) (.int j) H Q := ⟨i, j, rfl, rfl, ⟨h0, h1⟩, h⟩
theorem pow_int {i j : Int} (hc : CPow i j) (h : Q (.int (i ^ j.toNat)) H) : gPow (.int i) (.int j) H Q := ⟨i, j, rfl, rfl, hc, h⟩
theorem lt_int' {i j : Int} (h : Q (.bl (decide (i < j))) H) : gLt (.int i) (.int j) H Q := .inl ⟨i, j, rfl, rfl, h⟩
theorem lt_str' {i j : Str} (h : Q (.bl (decide (i.cps.toList < j.cps.toList))) H) : gLt (.str i) (.str j) H Q := .inr ⟨i, j, rfl, rfl, h⟩
theorem le_int' {i j : Int} (h : Q (.bl (decide (i ≤ j))) H) : gLe (.int i) (.int j) H Q := .inl ⟨i, j, rfl, rfl, h⟩
theorem le_str' {i j : Str} (h : Q (.bl (!decide (j.cps.toList < i.cps.toList))) H) : gLe (.str i) (.str j) H Q := .inr ⟨i, j, rfl, rfl, h⟩
theorem gt_int' {i j : Int} (h : Q (.bl (decide (j < i))) H) : gGt (.int i) (.int j) H Q := .inl ⟨i, j, rfl, rfl, h⟩
theorem gt_str' {i j : Str} (h : Q (.bl (decide (j.cps.toList < i.cps.toList))) H) : gGt (.str i) (.str j) H Q := .inr ⟨i, j, rfl, rfl, h⟩
theorem ge_int' {i j : Int} (h : Q (.bl (decide (j ≤ i))) H) : gGe (.int i) (.int j) H Q := .inl ⟨i, j, rfl, rfl, h⟩
theorem ge_str' {i j : Str} (h : Q (.bl (!decide (i.cps.toList < j.cps.toList))) H) : gGe (.str i) (.str j) H Q := .inr ⟨i, j, rfl, rfl, h⟩
theorem eq_int' {i j : Int} (h : Q (.bl (decide (i = j))) H) : gEq K (.int i) (.int j) H Q := .inl ⟨rfl, by rw [show decide (V.int i = V.int j) = decide (i = j) from by simp]; exact h⟩
theorem eq_str' {i j : Str} (h : Q (.bl (decide (i = j))) H) : gEq K (.str i) (.str j) H Q := .inl ⟨rfl, by rw [show decide (V.str i = V.str j) = decide (i = j) from by simp]; exact h⟩
theorem eq_bl' {i j : Bool} (h : Q (.bl (decide (i = j))) H) : gEq K (.bl i) (.bl j) H Q := .inl ⟨rfl, by rw [show decide (V.bl i = V.bl j) = decide (i = j) from by simp]; exact h⟩
theorem ne_int' {i j : Int} (h : Q (.bl (!decide (i = j))) H) : gNe K (.int i) (.int j) H Q := .inl ⟨rfl, by rw [show decide (V.int i = V.int j) = decide (i = j) from by simp]; exact h⟩
theorem ne_str' {i j : Str} (h : Q (.bl (!decide (i = j))) H) : gNe K (.str i) (.str j) H Q := .inl ⟨rfl, by rw [show decide (V.str i = V.str j) = decide (i = j) from by simp]; exact h⟩
theorem ne_bl' {i j : Bool} (h : Q (.bl (!decide (i = j))) H) : gNe K (.bl i) (.bl j) H Q := .inl ⟨rfl, by rw [show decide (V.bl i = V.bl j) = decide (i = j) from by simp]; exact h⟩
theorem is_non {x : V} (h : Q (.bl (decide (x = .non))) H) : gIs x .non H Q := .inl ⟨rfl, h⟩
theorem is_bl {a b : Bool} (h : Q (.bl (decide (a = b))) H) : gIs (.bl a) (.bl b) H Q := .inr ⟨a, b, rfl, rfl, h⟩
theorem isn_bl {a b : Bool} (h : Q (.bl (!decide (a = b))) H) : gIsN (.bl a) (.bl b) H Q := .inr ⟨a, b, rfl, rfl, h⟩
theorem isn_non {x : V} (h : Q (.bl (!decide (x = .non))) H) : gIsN x .non H Q := .inl ⟨rfl, h⟩
theorem ix_lst {p : Addr} {i : Int} {xs : List V} {v : V} (h1 : H p = some (.lst xs)) (h2 : atI xs i = some v) (h : Q v H) : gIx K (.ref p) (.int i) H Q := .inl (.inl ⟨p, xs, i, v, rfl, rfl, .inl (.inl h1), h2, h⟩)
theorem ix_sql {p : Addr} {i : Int} {xs : List V} {v : V} (h1 : SqL K H p xs) (h2 : atI xs i = some v) (h : Q v H) : gIx K (.ref p) (.int i) H Q := .inl (.inl ⟨p, xs, i, v, rfl, rfl, h1, h2, h⟩)
theorem ix_tpl {p : Addr} {i : Int} {xs : List V} {v : V} (h1 : H p = some (.tup xs)) (h2 : atI xs i = some v) (h : Q v H) : gIx K (.ref p) (.int i) H Q := .inl (.inr (.inl ⟨p, xs, i, v, rfl, rfl, .inl (.inl h1), h2, h⟩))
theorem ix_text {z : Str} {i : Int} {c : Nat} (h1 : z.length ≤ sizeLine) (h2 : atI z.cps.toList i = some c) (h : Q (.str ⟨#[c]⟩) H) : gIx K (.str z) (.int i) H Q := .inl (.inr (.inr ⟨z, i, c, rfl, rfl, h1, h2, h⟩))
theorem sl_lst {p : Addr} {lo hi : Option Int} {xs : List V} (h1 : H p = some (.lst xs)) (h : AtNew Q (.lst (cutV xs lo hi)) H) : gSl K (.ref p) lo hi H Q := .inl ⟨p, xs, rfl, .inl (.inl h1), h⟩
theorem sl_sql {p : Addr} {lo hi : Option Int} {xs : List V} (h1 : SqL K H p xs) (h : AtNew Q (.lst (cutV xs lo hi)) H) : gSl K (.ref p) lo hi H Q := .inl ⟨p, xs, rfl, h1, h⟩
theorem sl_text {z : Str} {lo hi : Option Int} (h1 : z.length ≤ sizeLine) (h : Q (.str (cutS z lo hi)) H) : gSl K (.str z) lo hi H Q := .inr (.inr ⟨z, rfl, h1, h⟩)
theorem len_lst {p : Addr} {xs : List V} (h1 : H p = some (.lst xs)) (h : Q (.int xs.length) H) : gLen K [.ref p] H Q := .inl ⟨.ref p, xs.length, rfl, .inl ⟨xs, .inl (.inl h1), rfl⟩, h⟩
theorem len_sql {p : Addr} {xs : List V} (h1 : SqL K H p xs) (h : Q (.int xs.length) H) : gLen K [.ref p] H Q := .inl ⟨.ref p, xs.length, rfl, .inl ⟨xs, h1, rfl⟩, h⟩
theorem len_tup {p : Addr} {xs : List V} (h1 : H p = some (.tup xs)) (h : Q (.int xs.length) H) : gLen K [.ref p] H Q := .inl ⟨.ref p, xs.length, rfl, .inr ⟨xs, .inl (.inl h1), rfl⟩, h⟩
theorem len_text {z : Str} (h1 : z.length ≤ sizeLine) (h : Q (.int z.length) H) : gLen K [.str z] H Q := .inl ⟨.str z, z.length, rfl, ⟨h1, rfl⟩, h⟩
theorem min_int {i j : Int} (h : Q (.int (if j < i then j else i)) H) : gMin K [.int i, .int j] H Q := .inl ⟨i, j, rfl, h⟩
theorem max_int {i j : Int} (h : Q (.int (if j > i then j else i)) H) : gMax K [.int i, .int j] H Q := .inl ⟨i, j, rfl, h⟩
theorem int_int {i : Int} (h : Q (.int i) H) : gInt [.int i] H Q := .inl (.inl ⟨i, rfl, h⟩)
theorem int_bl {k : Bool} (h : Q (.int (if k then 1 else 0)) H) : gInt [.bl k] H Q := .inl (.inr ⟨k, rfl, h⟩)
theorem abs_int {i : Int} (h : Q (.int (if i < 0 then -i else i)) H) : gAbs [.int i] H Q := ⟨i, rfl, h⟩
theorem list_sql {p : Addr} {ys : List V} (h1 : SqL K H p ys) (h : AtNew Q (.lst ys) H) : gList K [.ref p] H Q := .inl ⟨p, ys, rfl, .inl h1, h⟩
theorem list_tup {p : Addr} {ys : List V} (h1 : SqT K H p ys) (h : AtNew Q (.lst ys) H) : gList K [.ref p] H Q := .inl ⟨p, ys, rfl, .inr h1, h⟩
theorem setL_lst {p : Addr} {xs : List V} {k : Int} {j : Nat} {R : Hp → Prop} (h1 : H p = some (.lst xs)) (h2 : ixN xs.length k = some j) (h : R (upd H p (.lst (xs.set j v)))) : gSet (.ref p) (.int k) v H R := .inl ⟨p, xs, k, j, rfl, rfl, h1, h2, h⟩
theorem app_lst {l : Addr} {xs : List V} {y : V} (h1 : H l = some (.lst xs)) (h2 : xs.length < sizeLine) (h : Q .non (upd H l (.lst (xs ++ [y])))) : rAppend (.ref l) [y] H Q := ⟨l, xs, y, rfl, rfl, h1, h2, h⟩
theorem ty_lst {l : Addr} {xs : List V} (h1 : H l = some (.lst xs)) : tyV K "list" (.ref l) H := .inl ⟨rfl, _, .inl (.inl h1)⟩
end
end G

namespace G
open PySem PySem.Spec PyProof.Rows L2

/-! ### the draws' list, and what may be known beside it -/
/-- three numbers, none of them too great: n draws are left -/
def LeftO (n : Nat) (o : HO) : Prop := ∃ x y z : Int, o = .lst [.int x, .int y, .int z] ∧ 0 ≤ x ∧ 0 ≤ z ∧ z + (n : Int) ≤ 1152921504606846976
def Left (a : Addr) (n : Nat) (H : Hp) : Prop := ∃ o, H a = some o ∧ LeftO n o
theorem LeftO.le {n m : Nat} {o : HO} (h : LeftO n o) (hm : m ≤ n) : LeftO m o := by
  obtain ⟨x, y, z, e, h0, h1, h2⟩ := h
  exact ⟨x, y, z, e, h0, h1, by omega⟩
theorem Left.le {a : Addr} {n m : Nat} {H : Hp} (h : Left a n H) (hm : m ≤ n) : Left a m H := by
  obtain ⟨o, e, h⟩ := h
  exact ⟨o, e, h.le hm⟩
/-- from (B, H) to (B', H'): what is known stays known, all but the list at a stands, and what is known anew is new; n draws are left -/
structure St (a : Addr) (B0 H0 : Hp) (n : Nat) (B H : Hp) : Prop where
  kn : Same B0 B
  sub : Same B H
  na : B a = none
  left : Left a n H
  oth : ∀ q o, q ≠ a → H0 q = some o → H q = some o
  fr : ∀ q, H0 q ≠ none → B q = B0 q
section
variable {a p : Addr} {B0 H0 B H B1 H1 : Hp} {n m : Nat} {o : HO}
theorem St.le (S : St a B0 H0 n B H) (h : m ≤ n) : St a B0 H0 m B H := ⟨S.kn, S.sub, S.na, S.left.le h, S.oth, S.fr⟩
theorem St.new (h : Same B H) (hl : Left a n H) (hn : B a = none) : St a B H n B H := ⟨Same.refl _, h, hn, hl, fun _ _ _ e => e, fun _ _ => rfl⟩
theorem St.has (S : St a B0 H0 n B H) : H a ≠ none := by
  obtain ⟨o, e, _⟩ := S.left
  rw [e]; exact fun z => nomatch z
theorem St.free (S : St a B0 H0 n B H) (h : H p = none) : B p = none := S.sub.free h
theorem St.free0 (S : St a B0 H0 n B H) (h : H p = none) : H0 p = none := by
  cases e : H0 p with
  | none => rfl
  | some o =>
    have hp : p ≠ a := fun z => S.has (z ▸ h)
    rw [S.oth p o hp e] at h
    cases h
theorem St.nea (S : St a B0 H0 n B H) (h : H p = none) : p ≠ a := fun z => S.has (z ▸ h)
theorem St.trans (S : St a B0 H0 n B H) (S1 : St a B H m B1 H1) : St a B0 H0 m B1 H1 :=
  ⟨S.kn.trans S1.kn, S1.sub, S1.na, S1.left, fun q o hq e => S1.oth q o hq (S.oth q o hq e), fun q hq => by
    by_cases e : q = a
    · have h0 : B0 q = none := by
        cases z : B0 q with
        | none => rfl
        | some o =>
          rw [e] at z
          have h := S.kn a o z
          rw [S.na] at h
          cases h
      rw [h0, e]; exact S1.na
    · cases z : H0 q with
      | none => exact absurd z hq
      | some o => rw [S1.fr q (by rw [S.oth q o e z]; exact fun z => nomatch z)]; exact S.fr q hq⟩
/-- a new object, known from now on -/
theorem St.alloc (S : St a B0 H0 n B H) (h : H p = none) : St a B0 H0 n (upd B p o) (upd H p o) :=
  ⟨fun q u e => by
      have : q ≠ p := fun z => by
        have := S.kn q u e
        rw [z, S.free h] at this; cases this
      rw [upd_ne this]; exact S.kn q u e,
    fun q u e => by
      by_cases z : q = p
      · subst z; rw [upd_same] at e ⊢; exact e
      · rw [upd_ne z] at e ⊢; exact S.sub q u e,
    by rw [upd_ne (S.nea h).symm]; exact S.na,
    by
      obtain ⟨u, e, l⟩ := S.left
      exact ⟨u, by rw [upd_ne (S.nea h).symm]; exact e, l⟩,
    fun q u hq e => by
      have : q ≠ p := fun z => by rw [z, S.free0 h] at e; cases e
      rw [upd_ne this]; exact S.oth q u hq e,
    fun q hq => by
      have : q ≠ p := fun z => by rw [z] at hq; exact hq (S.free0 h)
      rw [upd_ne this]; exact S.fr q hq⟩
/-- a new object that is not known yet (it will change) -/
theorem St.vol (S : St a B0 H0 n B H) (h : H p = none) : St a B0 H0 n B (upd H p o) :=
  ⟨S.kn, fun q u e => by
      have : q ≠ p := fun z => by rw [z, S.free h] at e; cases e
      rw [upd_ne this]; exact S.sub q u e, S.na,
    by
      obtain ⟨u, e, l⟩ := S.left
      exact ⟨u, by rw [upd_ne (S.nea h).symm]; exact e, l⟩,
    fun q u hq e => by
      have : q ≠ p := fun z => by rw [z, S.free0 h] at e; cases e
      rw [upd_ne this]; exact S.oth q u hq e, S.fr⟩
/-- it changes -/
theorem St.put (S : St a B0 H0 n B H) (h0 : H0 p = none) (hb : B p = none) (hp : p ≠ a) : St a B0 H0 n B (upd H p o) :=
  ⟨S.kn, fun q u e => by
      have : q ≠ p := fun z => by rw [z, hb] at e; cases e
      rw [upd_ne this]; exact S.sub q u e, S.na,
    by
      obtain ⟨u, e, l⟩ := S.left
      exact ⟨u, by rw [upd_ne hp.symm]; exact e, l⟩,
    fun q u hq e => by
      have : q ≠ p := fun z => by rw [z, h0] at e; cases e
      rw [upd_ne this]; exact S.oth q u hq e, S.fr⟩
/-- it stays from now on -/
theorem St.know (S : St a B0 H0 n B H) (h : H p = some o) (h0 : H0 p = none) (hb : B p = none) (hp : p ≠ a) : St a B0 H0 n (upd B p o) H :=
  ⟨fun q u e => by
      have : q ≠ p := fun z => by
        have := S.kn q u e
        rw [z, hb] at this; cases this
      rw [upd_ne this]; exact S.kn q u e,
    fun q u e => by
      by_cases z : q = p
      · rw [z, upd_same] at e; rw [z, h]; exact e
      · rw [upd_ne z] at e; exact S.sub q u e,
    by rw [upd_ne hp.symm]; exact S.na, S.left, S.oth,
    fun q hq => by
      have : q ≠ p := fun z => by rw [z] at hq; exact hq h0
      rw [upd_ne this]; exact S.fr q hq⟩
theorem St.updB (S : St a B0 H0 n B H) (h : H p = none) : Same B (upd B p o) := fun q u e => by
  have : q ≠ p := fun z => by rw [z, S.free h] at e; cases e
  rw [upd_ne this]; exact e
theorem Same.new (h : B p = none) : Same B (upd B p o) := fun q u e => by
  have : q ≠ p := fun z => by rw [z, h] at e; cases e
  rw [upd_ne this]; exact e
/-- a call that changes nothing -/
theorem St.pure (S : St a B0 H0 n B H) (h : Same H H1) : St a B0 H0 n B H1 :=
  ⟨S.kn, S.sub.trans h, S.na, by
    obtain ⟨u, e, l⟩ := S.left
    exact ⟨u, h _ _ e, l⟩, fun q o hq e => h _ _ (S.oth q o hq e), S.fr⟩
end
/-- one step: all but the list at a stands; what is known anew is new -/
structure Oth (a : Addr) (B H B' H' : Hp) : Prop where
  st : ∀ q o, q ≠ a → H q = some o → H' q = some o
  fr : ∀ q, H q ≠ none → B' q = B q
/-- a cell that changes, from a step to the next -/
theorem Oth.cell {a p : Addr} {B H B' H' : Hp} {o : HO} (O : Oth a B H B' H') (hp : p ≠ a) (h : H p = some o) (hb : B p = none) : H' p = some o ∧ B' p = none :=
  ⟨O.st p o hp h, by rw [O.fr p (by rw [h]; exact fun z => nomatch z)]; exact hb⟩
/-- what a def that draws promises: the list at a, further arguments under pre; it draws at most cost times, and gives what R tells -/
def spGen (cost : Nat) (pre : Hp → List V → Prop) (R : List V → Hp → V → Prop) : Sp := fun vs H Q _ =>
  ∃ (a : Addr) (rest : List V) (n : Nat) (B : Hp), vs = .ref a :: rest ∧ Same B H ∧ B a = none ∧ Left a n H ∧ cost ≤ n ∧ pre B rest ∧
    ∀ v B' H', St a B H (n - cost) B' H' → R rest B' v → Q v H'
theorem St.gen {a : Addr} {B0 H0 B H : Hp} {n cost : Nat} {pre : Hp → List V → Prop} {R : List V → Hp → V → Prop} {rest : List V} {Q : VK} {E : XK} (S : St a B0 H0 n B H) (hc : cost ≤ n) (hp : pre B rest)
    (q : ∀ v B' H', St a B0 H0 (n - cost) B' H' → Oth a B H B' H' → Same B B' → R rest B' v → Q v H') : spGen cost pre R (.ref a :: rest) H Q E :=
  ⟨a, rest, n, B, rfl, S.sub, S.na, S.left, hc, hp, fun v B' H' S' r => q v B' H' (S.trans S') ⟨S'.oth, S'.fr⟩ S'.kn r⟩
end G

namespace G
open PySem PySem.Spec PyProof.Rows L2

/-! ### from (B, H) to (B', H'), nothing that stood is changed -/
structure Pu (B0 H0 B H : Hp) : Prop where
  kn : Same B0 B
  sub : Same B H
  old : Same H0 H
  fr : ∀ q, H0 q ≠ none → B q = B0 q
section
variable {a p : Addr} {B0 H0 B H B1 H1 : Hp} {n m : Nat} {o : HO}
theorem Pu.new (h : Same B H) : Pu B H B H := ⟨Same.refl _, h, Same.refl _, fun _ _ => rfl⟩
theorem Pu.free (S : Pu B0 H0 B H) (h : H p = none) : B p = none := S.sub.free h
theorem Pu.free0 (S : Pu B0 H0 B H) (h : H p = none) : H0 p = none := S.old.free h
theorem Same.updN {H : Hp} (hp : H p = none) : Same H (upd H p o) := fun q u e => by
  have : q ≠ p := fun z => by rw [z, hp] at e; cases e
  rw [upd_ne this]; exact e
theorem Same.upd2 (h : Same B H) (hp : H p = none) : Same (upd B p o) (upd H p o) := fun q u e => by
  by_cases z : q = p
  · subst z; rw [upd_same] at e ⊢; exact e
  · rw [upd_ne z] at e ⊢; exact h q u e
theorem Pu.alloc (S : Pu B0 H0 B H) (h : H p = none) : Pu B0 H0 (upd B p o) (upd H p o) :=
  ⟨S.kn.trans (Same.updN (S.free h)), Same.upd2 S.sub h, S.old.trans (Same.updN h), fun q hq => by
      have : q ≠ p := fun z => by rw [z] at hq; exact hq (S.free0 h)
      rw [upd_ne this]; exact S.fr q hq⟩
theorem Pu.vol (S : Pu B0 H0 B H) (h : H p = none) : Pu B0 H0 B (upd H p o) :=
  ⟨S.kn, S.sub.trans (Same.updN h), S.old.trans (Same.updN h), S.fr⟩
theorem Pu.put (S : Pu B0 H0 B H) (h0 : H0 p = none) (hb : B p = none) : Pu B0 H0 B (upd H p o) :=
  ⟨S.kn, fun q u e => by
      have : q ≠ p := fun z => by rw [z, hb] at e; cases e
      rw [upd_ne this]; exact S.sub q u e, fun q u e => by
      have : q ≠ p := fun z => by rw [z, h0] at e; cases e
      rw [upd_ne this]; exact S.old q u e, S.fr⟩
theorem Pu.know (S : Pu B0 H0 B H) (h : H p = some o) (h0 : H0 p = none) (hb : B p = none) : Pu B0 H0 (upd B p o) H :=
  ⟨S.kn.trans (Same.updN hb), fun q u e => by
      by_cases z : q = p
      · rw [z, upd_same] at e; rw [z, h]; exact e
      · rw [upd_ne z] at e; exact S.sub q u e, S.old,
    fun q hq => by
      have : q ≠ p := fun z => by rw [z] at hq; exact hq h0
      rw [upd_ne this]; exact S.fr q hq⟩
theorem Pu.trans (S : Pu B0 H0 B H) (S1 : Pu B H B1 H1) : Pu B0 H0 B1 H1 :=
  ⟨S.kn.trans S1.kn, S1.sub, S.old.trans S1.old, fun q hq => by
    cases z : H0 q with
    | none => exact absurd z hq
    | some o => rw [S1.fr q (by rw [S.old q o z]; exact fun z => nomatch z)]; exact S.fr q hq⟩
theorem Pu.pure (S : Pu B0 H0 B H) (h : Same H H1) : Pu B0 H0 B H1 := ⟨S.kn, S.sub.trans h, S.old.trans h, S.fr⟩
theorem St.pu (S : St a B0 H0 n B H) (S1 : Pu B H B1 H1) : St a B0 H0 n B1 H1 :=
  ⟨S.kn.trans S1.kn, S1.sub, by rw [S1.fr a S.has]; exact S.na, by
    obtain ⟨u, e, l⟩ := S.left
    exact ⟨u, S1.old _ _ e, l⟩, fun q o hq e => S1.old _ _ (S.oth q o hq e), fun q hq => by
    by_cases e : q = a
    · rw [S1.fr q (by rw [e]; exact S.has)]; exact S.fr q hq
    · cases z : H0 q with
      | none => exact absurd z hq
      | some o => rw [S1.fr q (by rw [S.oth q o e z]; exact fun z => nomatch z)]; exact S.fr q hq⟩
end
structure Old (B H B' H' : Hp) : Prop where
  st : Same H H'
  fr : ∀ q, H q ≠ none → B' q = B q
theorem Old.cell {p : Addr} {B H B' H' : Hp} {o : HO} (O : Old B H B' H') (h : H p = some o) (hb : B p = none) : H' p = some o ∧ B' p = none :=
  ⟨O.st p o h, by rw [O.fr p (by rw [h]; exact fun z => nomatch z)]; exact hb⟩
/-- a def that changes nothing: what it gives may be made of new objects, and of what is known -/
def spPure (pre : Hp → List V → Prop) (R : List V → Hp → V → Prop) : Sp := fun vs H Q _ =>
  ∃ B : Hp, Same B H ∧ pre B vs ∧ ∀ v B' H', Pu B H B' H' → R vs B' v → Q v H'
theorem Pu.call {B0 H0 B H : Hp} {pre : Hp → List V → Prop} {R : List V → Hp → V → Prop} {vs : List V} {Q : VK} {E : XK} (S : Pu B0 H0 B H) (hp : pre B vs)
    (q : ∀ v B' H', Pu B0 H0 B' H' → Old B H B' H' → Same B B' → R vs B' v → Q v H') : spPure pre R vs H Q E :=
  ⟨B, S.sub, hp, fun v B' H' S' r => q v B' H' (S.trans S') ⟨S'.old, S'.fr⟩ S'.kn r⟩
theorem St.call {a : Addr} {B0 H0 B H : Hp} {n : Nat} {pre : Hp → List V → Prop} {R : List V → Hp → V → Prop} {vs : List V} {Q : VK} {E : XK} (S : St a B0 H0 n B H) (hp : pre B vs)
    (q : ∀ v B' H', St a B0 H0 n B' H' → Oth a B H B' H' → Same B B' → R vs B' v → Q v H') : spPure pre R vs H Q E :=
  ⟨B, S.sub, hp, fun v B' H' S' r => q v B' H' (S.pu S') ⟨fun q o _ e => S'.old q o e, S'.fr⟩ S'.kn r⟩
theorem Same.call {B H : Hp} {pre : Hp → List V → Prop} {R : List V → Hp → V → Prop} {vs : List V} {Q : VK} {E : XK} (S : Same B H) (hp : pre B vs)
    (q : ∀ v B' H', Pu B H B' H' → R vs B' v → Q v H') : spPure pre R vs H Q E := ⟨B, S, hp, fun v B' H' S' r => q v B' H' S' r⟩

theorem St.atNew {a : Addr} {B0 H0 B H : Hp} {n : Nat} {Q : VK} {o : HO} (S : St a B0 H0 n B H) (q : ∀ p B' H', St a B0 H0 n B' H' → Oth a B H B' H' → Same B B' → H p = none → B' p = some o → Q (.ref p) H') : AtNew Q o H :=
  fun p hp => q p (upd B p o) (upd H p o) (S.alloc hp) ⟨fun q u _ e => Same.updN hp q u e, fun q hq => upd_ne fun z => hq (z ▸ hp)⟩ (Same.updN (S.free hp)) hp upd_same
theorem St.atVol {a : Addr} {B0 H0 B H : Hp} {n : Nat} {Q : VK} {o : HO} (S : St a B0 H0 n B H) (q : ∀ p H', St a B0 H0 n B H' → Oth a B H B H' → H p = none → H' p = some o → B p = none → H0 p = none → p ≠ a → Q (.ref p) H') : AtNew Q o H :=
  fun p hp => q p (upd H p o) (S.vol hp) ⟨fun q u _ e => Same.updN hp q u e, fun _ _ => rfl⟩ hp upd_same (S.free hp) (S.free0 hp) (S.nea hp)
theorem Pu.atNew {B0 H0 B H : Hp} {Q : VK} {o : HO} (S : Pu B0 H0 B H) (q : ∀ p B' H', Pu B0 H0 B' H' → Old B H B' H' → Same B B' → H p = none → B' p = some o → Q (.ref p) H') : AtNew Q o H :=
  fun p hp => q p (upd B p o) (upd H p o) (S.alloc hp) ⟨Same.updN hp, fun q hq => upd_ne fun z => hq (z ▸ hp)⟩ (Same.updN (S.free hp)) hp upd_same
theorem Pu.atVol {B0 H0 B H : Hp} {Q : VK} {o : HO} (S : Pu B0 H0 B H) (q : ∀ p H', Pu B0 H0 B H' → Old B H B H' → H p = none → H' p = some o → B p = none → H0 p = none → Q (.ref p) H') : AtNew Q o H :=
  fun p hp => q p (upd H p o) (S.vol hp) ⟨Same.updN hp, fun _ _ => rfl⟩ hp upd_same (S.free hp) (S.free0 hp)
/-- a draw below m -/
def spPick : Sp := fun vs H Q _ => ∃ (a : Addr) (n : Nat) (B : Hp) (m : Int), vs = [.ref a, .int m] ∧ Same B H ∧ B a = none ∧ Left a n H ∧ 1 ≤ n ∧ 0 < m ∧ m < 1073741824 ∧
  ∀ d H', 0 ≤ d → d < m → St a B H (n - 1) B H' → Q (.int d) H'
theorem use_pick {a : Addr} {B0 H0 B H : Hp} {n : Nat} {m : Int} {Q : VK} {E : XK} (S : St a B0 H0 n B H) (hn : 1 ≤ n) (h0 : 0 < m) (h1 : m < 1073741824)
    (q : ∀ d H', 0 ≤ d → d < m → St a B0 H0 (n - 1) B H' → Oth a B H B H' → Q (.int d) H') : spPick [.ref a, .int m] H Q E :=
  ⟨a, n, B, m, rfl, S.sub, S.na, S.left, hn, h0, h1, fun d H' h2 h3 S' => q d H' h2 h3 (S.trans S') ⟨S'.oth, S'.fr⟩⟩

/-! ### walks -/
section
variable {σ : L2.St} {H : Hp} {Q : VK} {wi : TI} {g : TG} {tt : TT} {te tl : TE} {ts : TA} {vs : List Nat} {D : Ends} {tb : TS} {K : PySem.W.Frag}
def LcB (g : TG) (tt : TT) (te : TE) (vs : List Nat) (σ : L2.St) (Q : VK) (J : It) (H1 : Hp) : Prop := ∀ D, H1 D = none → ∃ W : Nat → Nat → Hp → Prop, (∃ m, W 0 m (upd H1 D (.lst []))) ∧ ∀ i m H, W i m H →
  (J.stop i H ∧ Q (.ref D) H) ∨ (J.go i H ∧ ∃ Nx : Hp → Prop, (∀ H', Nx H' → ∃ m', m' < m ∧ W (i + 1) m' H') ∧ ∀ x H', J.yld i H x H' → g x (wipe σ vs) H' fun σ2 H2 => wipe σ2 vs = wipe σ vs ∧ tt σ2 H2 fun b H3 =>
    if b = true then te σ2 H3 fun y H4 => ∃ acc, H4 D = some (.lst acc) ∧ acc.length < sizeLine ∧ Nx (upd H4 D (.lst (acc ++ [y]))) else Nx H3)
theorem g_lc (h : wi σ H (LcB g tt te vs σ Q)) : tLc wi g tt te vs σ H Q := h
def FoB (g : TG) (tb : TS) (D : Ends) (σ : L2.St) (J : It) (H1 : Hp) : Prop := ∃ W : Nat → Nat → L2.St → Hp → Prop, (∃ m, W 0 m σ H1) ∧ ∀ i m σ H, W i m σ H →
  (J.stop i H ∧ D.nx σ H) ∨ (J.go i H ∧ ∃ N : L2.St → Hp → Prop, (∀ σ' H', N σ' H' → ∃ m', m' < m ∧ W (i + 1) m' σ' H') ∧ ∀ x H', J.yld i H x H' → g x σ H' fun σ2 H2 => tb { D with nx := N, ct := N, bk := D.nx } σ2 H2)
theorem g_for (h : wi σ H (FoB g tb D σ)) : tFor wi g tb D σ H := h
def Rn1 (R : It → Hp → Prop) (vs : List V) (H1 : Hp) : Prop := ∃ j : Int, vs = [.int j] ∧ -(2 ^ 62) ≤ j ∧ j < 2 ^ 62 ∧ R (Itr 0 j.toNat) H1
theorem g_rng1 {R : It → Hp → Prop} (h : ts σ H (Rn1 R)) : iRng1 ts σ H R := h
def Rn2 (R : It → Hp → Prop) (vs : List V) (H1 : Hp) : Prop := ∃ i j : Int, vs = [.int i, .int j] ∧ (-(2 ^ 62) ≤ i ∧ i < 2 ^ 62 ∧ -(2 ^ 62) ≤ j ∧ j < 2 ^ 62) ∧ R (Itr i (j - i).toNat) H1
theorem g_rng2 {R : It → Hp → Prop} (h : ts σ H (Rn2 R)) : iRng2 ts σ H R := h
def Ls1 (K : PySem.W.Frag) (R : It → Hp → Prop) (x : V) (H1 : Hp) : Prop := ∃ a, x = .ref a ∧ (∃ xs, SqL K H1 a xs) ∧ R (Itl K a) H1
theorem g_ilist {R : It → Hp → Prop} (h : tl σ H (Ls1 K R)) : iList K tl σ H R := h
def Tp1 (K : PySem.W.Frag) (R : It → Hp → Prop) (x : V) (H1 : Hp) : Prop := ∃ a, x = .ref a ∧ (∃ xs, SqT K H1 a xs) ∧ R (Itt K a) H1
theorem g_itup {R : It → Hp → Prop} (h : tl σ H (Tp1 K R)) : iTup K tl σ H R := h
def Sr1 (R : It → Hp → Prop) (v : V) (H1 : Hp) : Prop := ∃ x, v = .str x ∧ R (Its x) H1
theorem g_istr {R : It → Hp → Prop} (h : tl σ H (Sr1 R)) : iStr tl σ H R := h
def WB (tb : TS) (n : L2.St → Hp → Prop) (r : VK) (W : Nat → L2.St → Hp → Prop) (m : Nat) (σ : L2.St) (H : Hp) : Prop :=
  ∃ N : L2.St → Hp → Prop, (∀ σ' H', N σ' H' → ∃ m', m' < m ∧ W m' σ' H') ∧ tb ⟨N, r, n, N⟩ σ H
theorem WB.mk {n : L2.St → Hp → Prop} {r : VK} {W : Nat → L2.St → Hp → Prop} {m : Nat} (h : tb ⟨fun σ2 H2 => ∃ m', m' < m ∧ W m' σ2 H2, r, n, fun σ2 H2 => ∃ m', m' < m ∧ W m' σ2 H2⟩ σ H) : WB tb n r W m σ H := ⟨_, fun _ _ p => p, h⟩
theorem g_while {c : TT} {n b cc : L2.St → Hp → Prop} {r : VK} (W : Nat → L2.St → Hp → Prop) (m : Nat) (h0 : W m σ H)
    (hs : ∀ m σ' H', W m σ' H' → c σ' H' fun k H1 => if k = true then WB tb n r W m σ' H1 else n σ' H1) : tWhile c tb ⟨n, r, b, cc⟩ σ H :=
  ⟨W, ⟨m, h0⟩, fun m σ' H' w => hs m σ' H' w⟩
end
/-! ### lists of texts, of numbers -/
theorem strs_of {P : Str → Prop} : ∀ {xs : List V}, (∀ v ∈ xs, ∃ z, v = .str z ∧ P z) → ∃ zs : List Str, xs = zs.map V.str ∧ ∀ z ∈ zs, P z
  | [], _ => ⟨[], rfl, fun _ h => nomatch h⟩
  | x :: xs, h => by
    obtain ⟨z, rfl, p⟩ := h x List.mem_cons_self
    obtain ⟨zs, rfl, ps⟩ := strs_of fun v hv => h v (List.mem_cons_of_mem _ hv)
    exact ⟨z :: zs, rfl, fun y hy => by
      rcases List.mem_cons.mp hy with rfl | hy
      · exact p
      · exact ps y hy⟩
theorem ints_of {P : Int → Prop} : ∀ {xs : List V}, (∀ v ∈ xs, ∃ z, v = .int z ∧ P z) → ∃ zs : List Int, xs = zs.map V.int ∧ ∀ z ∈ zs, P z
  | [], _ => ⟨[], rfl, fun _ h => nomatch h⟩
  | x :: xs, h => by
    obtain ⟨z, rfl, p⟩ := h x List.mem_cons_self
    obtain ⟨zs, rfl, ps⟩ := ints_of fun v hv => h v (List.mem_cons_of_mem _ hv)
    exact ⟨z :: zs, rfl, fun y hy => by
      rcases List.mem_cons.mp hy with rfl | hy
      · exact p
      · exact ps y hy⟩
theorem mem_ix {α : Type} {xs : List α} {P : α → Prop} (h : ∀ (i : Nat) v, xs[i]? = some v → P v) : ∀ v ∈ xs, P v := fun v hv => by
  obtain ⟨i, hi⟩ := List.getElem?_of_mem hv
  exact h i v hi
theorem at_str {zs : List Str} {d : Int} (h0 : 0 ≤ d) (h1 : d < (zs.length : Int)) : ∃ z, z ∈ zs ∧ atI (zs.map V.str) d = some (.str z) := by
  obtain ⟨j, rfl⟩ : ∃ j : Nat, d = (j : Int) := ⟨d.toNat, by omega⟩
  have hj : j < zs.length := by omega
  exact ⟨zs[j], List.getElem_mem hj, atI_nat (by rw [List.getElem?_map, List.getElem?_eq_getElem hj]; rfl)⟩
theorem at_any {xs : List V} {d : Int} (h0 : 0 ≤ d) (h1 : d < (xs.length : Int)) : ∃ z, z ∈ xs ∧ atI xs d = some z := by
  obtain ⟨j, rfl⟩ : ∃ j : Nat, d = (j : Int) := ⟨d.toNat, by omega⟩
  have hj : j < xs.length := by omega
  exact ⟨xs[j], List.getElem_mem hj, atI_nat (List.getElem?_eq_getElem hj)⟩
theorem at_chr {zs : List Nat} {d : Int} (h0 : 0 ≤ d) (h1 : d < (zs.length : Int)) : ∃ z, z ∈ zs ∧ atI zs d = some z := by
  obtain ⟨j, rfl⟩ : ∃ j : Nat, d = (j : Int) := ⟨d.toNat, by omega⟩
  have hj : j < zs.length := by omega
  exact ⟨zs[j], List.getElem_mem hj, atI_nat (List.getElem?_eq_getElem hj)⟩
end G

namespace G
open PySem PySem.Spec PyProof.Rows L2 TL

/-! ### texts of letters -/
theorem str_ext {x y : Str} (h : tl x = tl y) : x = y := ext_tl h
def LtL (l : List Nat) : Prop := ∀ c ∈ l, 97 ≤ c ∧ c ≤ 122
def Ky (n : Nat) (z : Str) : Prop := (tl z).length ≤ n ∧ LtL (tl z)
theorem Ky.le {n m : Nat} {z : Str} (h : Ky n z) (hm : n ≤ m) : Ky m z := ⟨Nat.le_trans h.1 hm, h.2⟩
theorem Ky.len {n : Nat} {z : Str} (h : Ky n z) : z.length ≤ n := by rw [len_tl]; exact h.1
theorem Ky.app {n m : Nat} {x y : Str} (h : Ky n x) (h' : Ky m y) : Ky (n + m) (x ++ y) := by
  refine ⟨?_, fun c hc => ?_⟩
  · rw [tl_append, List.length_append]; exact Nat.add_le_add h.1 h'.1
  · rw [tl_append] at hc
    rcases List.mem_append.mp hc with hc | hc
    · exact h.2 c hc
    · exact h'.2 c hc
theorem Ky.one {c : Nat} (h : 97 ≤ c ∧ c ≤ 122) : Ky 1 (⟨#[c]⟩ : Str) := ⟨Nat.le_refl 1, fun d hd => by
  have : d = c := by simpa using hd
  rw [this]; exact h⟩
theorem joinL_nil : ∀ ps : List (List Nat), joinL [] ps = ps.flatten
  | [] => rfl
  | [p] => by simp [joinL]
  | p :: q :: r => by
    show p ++ ([] ++ joinL [] (q :: r)) = _
    rw [joinL_nil (q :: r)]; simp
theorem tl_join0 {y : Str} (hy : tl y = []) (ys : List Str) : tl (Txt.join y ys) = (ys.map tl).flatten := by rw [join_eq, tl_join, hy, joinL_nil]
theorem flat_len {n : Nat} : ∀ {ls : List (List Nat)}, (∀ l ∈ ls, l.length ≤ n) → ls.flatten.length ≤ ls.length * n
  | [], _ => by simp
  | l :: ls, h => by
    rw [List.flatten_cons, List.length_append, List.length_cons, Nat.succ_mul, Nat.add_comm]
    exact Nat.add_le_add (flat_len fun x hx => h x (List.mem_cons_of_mem _ hx)) (h l List.mem_cons_self)
theorem Ky.join {y : Str} (hy : tl y = []) {n : Nat} {ys : List Str} (h : ∀ z ∈ ys, Ky n z) : Ky (ys.length * n) (Txt.join y ys) := by
  refine ⟨?_, fun c hc => ?_⟩
  · rw [tl_join0 hy]
    have := flat_len (n := n) (ls := ys.map tl) (fun l hl => by
      obtain ⟨z, hz, rfl⟩ := List.mem_map.mp hl
      exact (h z hz).1)
    rw [List.length_map] at this; exact this
  · rw [tl_join0 hy] at hc
    obtain ⟨l, hl, hc⟩ := List.mem_flatten.mp hc
    obtain ⟨z, hz, rfl⟩ := List.mem_map.mp hl
    exact (h z hz).2 c hc
theorem Ky.sum {n : Nat} : ∀ {ys : List Str}, (∀ z ∈ ys, Ky n z) → (ys.map (·.length)).sum ≤ ys.length * n
  | [], _ => by simp
  | y :: ys, h => by
    rw [List.map_cons, List.sum_cons, List.length_cons, Nat.succ_mul, Nat.add_comm]
    exact Nat.add_le_add (Ky.sum fun x hx => h x (List.mem_cons_of_mem _ hx)) (h y List.mem_cons_self).len
theorem tl_cut (z : Str) (lo hi : Option Int) : tl (cutS z lo hi) = ((tl z).drop (HT.sIx z.length 0 lo)).take (HT.sIx z.length z.length hi - HT.sIx z.length 0 lo) := rfl
theorem Ky.cut {n : Nat} {z : Str} (h : Ky n z) (lo hi : Option Int) : Ky n (cutS z lo hi) := by
  refine ⟨?_, fun c hc => ?_⟩
  · rw [tl_cut, List.length_take, List.length_drop]; have := h.1; omega
  · rw [tl_cut] at hc
    exact h.2 c (List.mem_of_mem_drop (List.mem_of_mem_take hc))
theorem tl_mul (z : Str) (n : Int) : tl (Txt.mul z n) = (List.replicate n.toNat (tl z)).flatten := by
  unfold Txt.mul
  split
  · rename_i h
    rw [show n.toNat = 0 by omega]; rfl
  · split
    · rename_i h1 h2
      rw [Bool.or_eq_true, beq_iff_eq, beq_iff_eq] at h2
      rcases h2 with h2 | h2
      · rw [h2]; simp [List.replicate]
      · have : tl z = [] := List.eq_nil_of_length_eq_zero (by rw [← len_tl]; exact h2)
        rw [this]; simp
    · have key : ∀ (k : Nat) (acc : Array Nat), ((List.replicate k z.cps).foldl (· ++ ·) acc).toList = acc.toList ++ (List.replicate k (tl z)).flatten := by
        intro k
        induction k with
        | zero => intro acc; simp
        | succ k ih =>
          intro acc
          rw [List.replicate_succ, List.foldl_cons, ih, List.replicate_succ, List.flatten_cons, Array.toList_append, List.append_assoc]
      show (((List.replicate n.toNat z.cps).foldl (· ++ ·) #[]).toList) = _
      rw [key]; simp
theorem Ky.mul {k : Nat} {z : Str} (h : Ky k z) (n : Int) : Ky (n.toNat * k) (Txt.mul z n) := by
  refine ⟨?_, fun c hc => ?_⟩
  · rw [tl_mul]
    have := flat_len (n := k) (ls := List.replicate n.toNat (tl z)) (fun l hl => by rw [List.eq_of_mem_replicate hl]; exact h.1)
    rw [List.length_replicate] at this; exact this
  · rw [tl_mul] at hc
    obtain ⟨l, hl, hc⟩ := List.mem_flatten.mp hc
    rw [List.eq_of_mem_replicate hl] at hc
    exact h.2 c hc
theorem mulOk {z : Str} {n : Int} (hz : z.length ≤ 1000) (h0 : -1000 ≤ n) (h1 : n ≤ 1000) : MulOk z n := by
  have hs : sizeLine = 16777216 := sizeLine_eq
  refine ⟨?_, fun h _ => ?_, fun h _ => ?_⟩
  · rw [decide_eq_false (by omega), decide_eq_false (by omega)]; rfl
  · intro hc
    have h2 : (2 ^ 63 - 1 : Int) / 1000 ≤ (2 ^ 63 - 1) / n := by
      refine Int.le_ediv_of_mul_le (by omega) ?_
      have : (2 ^ 63 - 1 : Int) / 1000 * n ≤ (2 ^ 63 - 1 : Int) / 1000 * 1000 := Int.mul_le_mul_of_nonneg_left h1 (by decide)
      exact Int.le_trans this (by decide)
    have h3 : (1000 : Int) < (2 ^ 63 - 1 : Int) / 1000 := by decide
    omega
  · have hn : n.toNat ≤ 1000 := by omega
    have : z.length * n.toNat ≤ 1000 * 1000 := Nat.mul_le_mul hz hn
    unfold Builtin.Str.tooLong
    exact decide_eq_false (by rw [hs]; omega)
theorem one_lt {c d : Nat} : (tl (⟨#[c]⟩ : Str) < tl (⟨#[d]⟩ : Str)) ↔ c < d := by
  show ([c] : List Nat) < [d] ↔ c < d
  constructor
  · intro h
    cases h with
    | rel h => exact h
    | cons h => cases h
  · exact fun h => .rel h
theorem one_eq {c d : Nat} : ((⟨#[c]⟩ : Str) = ⟨#[d]⟩) ↔ c = d := by
  constructor
  · intro h
    have := congrArg tl h
    simpa using this
  · exact fun h => by rw [h]
/-! ### an item by a drawn place -/
section
variable {K : PySem.W.Frag} {H : Hp} {Q : VK} {d : Int}
theorem ix_textP {z : Str} (h : z.length ≤ 1048576) (h0 : 0 ≤ d) (h1 : d < ((tl z).length : Int)) (q : ∀ c ∈ tl z, Q (.str ⟨#[c]⟩) H) : gIx K (.str z) (.int d) H Q := by
  obtain ⟨c, hc, ha⟩ := at_chr h0 h1
  exact ix_text (szl' h) ha (q c hc)
theorem ix_lstP {p : Addr} {xs : List V} (h : H p = some (.lst xs)) (h0 : 0 ≤ d) (h1 : d < (xs.length : Int)) (q : ∀ v ∈ xs, Q v H) : gIx K (.ref p) (.int d) H Q := by
  obtain ⟨c, hc, ha⟩ := at_any h0 h1
  exact ix_lst h ha (q c hc)
theorem ix_tupP {p : Addr} {xs : List V} (h : H p = some (.tup xs)) (h0 : 0 ≤ d) (h1 : d < (xs.length : Int)) (q : ∀ v ∈ xs, Q v H) : gIx K (.ref p) (.int d) H Q := by
  obtain ⟨c, hc, ha⟩ := at_any h0 h1
  exact ix_tpl h ha (q c hc)
theorem ix_strsP {p : Addr} {zs : List Str} (h : H p = some (.lst (zs.map V.str))) (h0 : 0 ≤ d) (h1 : d < (zs.length : Int)) (q : ∀ z ∈ zs, Q (.str z) H) : gIx K (.ref p) (.int d) H Q := by
  obtain ⟨c, hc, ha⟩ := at_str h0 h1
  exact ix_lst h ha (q c hc)
end
/-- one of two, one of three .. -/
theorem mem1 {P : V → Prop} {a : V} (h : P a) : ∀ v ∈ [a], P v := fun v hv => by rw [List.mem_singleton.mp hv]; exact h
theorem memc {P : V → Prop} {a : V} {l : List V} (h : P a) (t : ∀ v ∈ l, P v) : ∀ v ∈ a :: l, P v := fun v hv => by
  rcases List.mem_cons.mp hv with rfl | hv
  · exact h
  · exact t v hv
/-- keys in a list that is known -/
def Kys (n : Nat) (B : Hp) (p : Addr) (zs : List Str) : Prop := B p = some (.lst (zs.map V.str)) ∧ ∀ z ∈ zs, Ky n z
theorem Kys.mono {n : Nat} {B B' : Hp} {p : Addr} {zs : List Str} (h : Kys n B p zs) (s : Same B B') : Kys n B' p zs := ⟨s _ _ h.1, h.2⟩
end G

namespace G
open PySem PySem.Spec PyProof.Rows L2 TL RZ

/-! ### == of unlike kinds -/
section
variable {K : PySem.W.Frag} {H : Hp} {Q : VK}
theorem eq_non (h : Q (.bl true) H) : gEq K .non .non H Q := .inl ⟨rfl, by rw [decide_eq_true rfl]; exact h⟩
theorem ne_non (h : Q (.bl false) H) : gNe K .non .non H Q := .inl ⟨rfl, by rw [decide_eq_true rfl]; exact h⟩
end
/-! ### isinstance -/
section
variable {K : PySem.W.Frag} {H : Hp} {Q : VK} {x : V} {ty T : String} {b : Bool}
theorem isi_1 (h : TyX K H x (.type ty)) (hk : kitB ty T = some b) (q : Q (.bl b) H) : gIsi K [x, .ty T] H Q := .inl ⟨x, .ty T, .type ty, .type T, b, rfl, .ty T, h, hk, q⟩
theorem isi_2 {tp : Addr} {T1 T2 : String} {b1 b2 : Bool} (ht : H tp = some (.tup [.ty T1, .ty T2])) (h : TyX K H x (.type ty)) (h1 : kitB ty T1 = some b1) (h2 : kitB ty T2 = some b2) (q : Q (.bl (b1 || b2)) H) : gIsi K [x, .ref tp] H Q := by
  refine .inr ⟨x, tp, [.ty T1, .ty T2], .type ty, [.type T1, .type T2], b1 || b2, rfl, ht, .cons (.ty _) (.cons (.ty _) .nil), h, ?_, q⟩
  unfold PySem.W.kitAny
  rw [show PySem.W.kitOne K (.type ty) (.type T1) = some b1 from h1]
  cases b1 with
  | true => rfl
  | false =>
    show PySem.W.kitAny K (.type ty) [.type T2] = some b2
    unfold PySem.W.kitAny
    rw [show PySem.W.kitOne K (.type ty) (.type T2) = some b2 from h2]
    cases b2 <;> rfl
theorem ty_non : TyX K H .non (.type "NoneType") := .base .non
theorem ty_bl {k : Bool} : TyX K H (.bl k) (.type "bool") := .base (.bl k)
theorem ty_int {i : Int} : TyX K H (.int i) (.type "int") := .base (.int i)
theorem ty_str {z : Str} : TyX K H (.str z) (.type "str") := .base (.str z)
theorem ty_list {p : Addr} {xs : List V} (h : H p = some (.lst xs)) : TyX K H (.ref p) (.type "list") := .base (.lst h)
theorem ty_tup {p : Addr} {xs : List V} (h : H p = some (.tup xs)) : TyX K H (.ref p) (.type "tuple") := .base (.tup h)
theorem kb_non_int : kitB "NoneType" "int" = some false := by decide +kernel
theorem isi_non_int (q : Q (.bl false) H) : gIsi K [.non, .ty "int"] H Q := isi_1 ty_non kb_non_int q
theorem kb_non_str : kitB "NoneType" "str" = some false := by decide +kernel
theorem isi_non_str (q : Q (.bl false) H) : gIsi K [.non, .ty "str"] H Q := isi_1 ty_non kb_non_str q
theorem kb_non_bool : kitB "NoneType" "bool" = some false := by decide +kernel
theorem isi_non_bool (q : Q (.bl false) H) : gIsi K [.non, .ty "bool"] H Q := isi_1 ty_non kb_non_bool q
theorem kb_non_list : kitB "NoneType" "list" = some false := by decide +kernel
theorem isi_non_list (q : Q (.bl false) H) : gIsi K [.non, .ty "list"] H Q := isi_1 ty_non kb_non_list q
theorem kb_non_tuple : kitB "NoneType" "tuple" = some false := by decide +kernel
theorem isi_non_tuple (q : Q (.bl false) H) : gIsi K [.non, .ty "tuple"] H Q := isi_1 ty_non kb_non_tuple q
theorem isi2_non {tp : Addr} (ht : H tp = some (.tup [.ty "list", .ty "tuple"])) (q : Q (.bl false) H) : gIsi K [.non, .ref tp] H Q := isi_2 ht ty_non kb_non_list kb_non_tuple q
theorem kb_bl_int : kitB "bool" "int" = some true := by decide +kernel
theorem isi_bl_int {k : Bool} (q : Q (.bl true) H) : gIsi K [.bl k, .ty "int"] H Q := isi_1 ty_bl kb_bl_int q
theorem kb_bl_str : kitB "bool" "str" = some false := by decide +kernel
theorem isi_bl_str {k : Bool} (q : Q (.bl false) H) : gIsi K [.bl k, .ty "str"] H Q := isi_1 ty_bl kb_bl_str q
theorem kb_bl_bool : kitB "bool" "bool" = some true := by decide +kernel
theorem isi_bl_bool {k : Bool} (q : Q (.bl true) H) : gIsi K [.bl k, .ty "bool"] H Q := isi_1 ty_bl kb_bl_bool q
theorem kb_bl_list : kitB "bool" "list" = some false := by decide +kernel
theorem isi_bl_list {k : Bool} (q : Q (.bl false) H) : gIsi K [.bl k, .ty "list"] H Q := isi_1 ty_bl kb_bl_list q
theorem kb_bl_tuple : kitB "bool" "tuple" = some false := by decide +kernel
theorem isi_bl_tuple {k : Bool} (q : Q (.bl false) H) : gIsi K [.bl k, .ty "tuple"] H Q := isi_1 ty_bl kb_bl_tuple q
theorem isi2_bl {tp : Addr} {k : Bool} (ht : H tp = some (.tup [.ty "list", .ty "tuple"])) (q : Q (.bl false) H) : gIsi K [.bl k, .ref tp] H Q := isi_2 ht ty_bl kb_bl_list kb_bl_tuple q
theorem kb_int_int : kitB "int" "int" = some true := by decide +kernel
theorem isi_int_int {i : Int} (q : Q (.bl true) H) : gIsi K [.int i, .ty "int"] H Q := isi_1 ty_int kb_int_int q
theorem kb_int_str : kitB "int" "str" = some false := by decide +kernel
theorem isi_int_str {i : Int} (q : Q (.bl false) H) : gIsi K [.int i, .ty "str"] H Q := isi_1 ty_int kb_int_str q
theorem kb_int_bool : kitB "int" "bool" = some false := by decide +kernel
theorem isi_int_bool {i : Int} (q : Q (.bl false) H) : gIsi K [.int i, .ty "bool"] H Q := isi_1 ty_int kb_int_bool q
theorem kb_int_list : kitB "int" "list" = some false := by decide +kernel
theorem isi_int_list {i : Int} (q : Q (.bl false) H) : gIsi K [.int i, .ty "list"] H Q := isi_1 ty_int kb_int_list q
theorem kb_int_tuple : kitB "int" "tuple" = some false := by decide +kernel
theorem isi_int_tuple {i : Int} (q : Q (.bl false) H) : gIsi K [.int i, .ty "tuple"] H Q := isi_1 ty_int kb_int_tuple q
theorem isi2_int {tp : Addr} {i : Int} (ht : H tp = some (.tup [.ty "list", .ty "tuple"])) (q : Q (.bl false) H) : gIsi K [.int i, .ref tp] H Q := isi_2 ht ty_int kb_int_list kb_int_tuple q
theorem kb_str_int : kitB "str" "int" = some false := by decide +kernel
theorem isi_str_int {z : Str} (q : Q (.bl false) H) : gIsi K [.str z, .ty "int"] H Q := isi_1 ty_str kb_str_int q
theorem kb_str_str : kitB "str" "str" = some true := by decide +kernel
theorem isi_str_str {z : Str} (q : Q (.bl true) H) : gIsi K [.str z, .ty "str"] H Q := isi_1 ty_str kb_str_str q
theorem kb_str_bool : kitB "str" "bool" = some false := by decide +kernel
theorem isi_str_bool {z : Str} (q : Q (.bl false) H) : gIsi K [.str z, .ty "bool"] H Q := isi_1 ty_str kb_str_bool q
theorem kb_str_list : kitB "str" "list" = some false := by decide +kernel
theorem isi_str_list {z : Str} (q : Q (.bl false) H) : gIsi K [.str z, .ty "list"] H Q := isi_1 ty_str kb_str_list q
theorem kb_str_tuple : kitB "str" "tuple" = some false := by decide +kernel
theorem isi_str_tuple {z : Str} (q : Q (.bl false) H) : gIsi K [.str z, .ty "tuple"] H Q := isi_1 ty_str kb_str_tuple q
theorem isi2_str {tp : Addr} {z : Str} (ht : H tp = some (.tup [.ty "list", .ty "tuple"])) (q : Q (.bl false) H) : gIsi K [.str z, .ref tp] H Q := isi_2 ht ty_str kb_str_list kb_str_tuple q
theorem kb_lst_int : kitB "list" "int" = some false := by decide +kernel
theorem isi_lst_int {p : Addr} {xs : List V} (h : H p = some (.lst xs)) (q : Q (.bl false) H) : gIsi K [.ref p, .ty "int"] H Q := isi_1 (ty_list h) kb_lst_int q
theorem kb_lst_str : kitB "list" "str" = some false := by decide +kernel
theorem isi_lst_str {p : Addr} {xs : List V} (h : H p = some (.lst xs)) (q : Q (.bl false) H) : gIsi K [.ref p, .ty "str"] H Q := isi_1 (ty_list h) kb_lst_str q
theorem kb_lst_bool : kitB "list" "bool" = some false := by decide +kernel
theorem isi_lst_bool {p : Addr} {xs : List V} (h : H p = some (.lst xs)) (q : Q (.bl false) H) : gIsi K [.ref p, .ty "bool"] H Q := isi_1 (ty_list h) kb_lst_bool q
theorem kb_lst_list : kitB "list" "list" = some true := by decide +kernel
theorem isi_lst_list {p : Addr} {xs : List V} (h : H p = some (.lst xs)) (q : Q (.bl true) H) : gIsi K [.ref p, .ty "list"] H Q := isi_1 (ty_list h) kb_lst_list q
theorem kb_lst_tuple : kitB "list" "tuple" = some false := by decide +kernel
theorem isi_lst_tuple {p : Addr} {xs : List V} (h : H p = some (.lst xs)) (q : Q (.bl false) H) : gIsi K [.ref p, .ty "tuple"] H Q := isi_1 (ty_list h) kb_lst_tuple q
theorem isi2_lst {tp : Addr} {p : Addr} {xs : List V} (h : H p = some (.lst xs)) (ht : H tp = some (.tup [.ty "list", .ty "tuple"])) (q : Q (.bl true) H) : gIsi K [.ref p, .ref tp] H Q := isi_2 ht (ty_list h) kb_lst_list kb_lst_tuple q
theorem kb_tup_int : kitB "tuple" "int" = some false := by decide +kernel
theorem isi_tup_int {p : Addr} {xs : List V} (h : H p = some (.tup xs)) (q : Q (.bl false) H) : gIsi K [.ref p, .ty "int"] H Q := isi_1 (ty_tup h) kb_tup_int q
theorem kb_tup_str : kitB "tuple" "str" = some false := by decide +kernel
theorem isi_tup_str {p : Addr} {xs : List V} (h : H p = some (.tup xs)) (q : Q (.bl false) H) : gIsi K [.ref p, .ty "str"] H Q := isi_1 (ty_tup h) kb_tup_str q
theorem kb_tup_bool : kitB "tuple" "bool" = some false := by decide +kernel
theorem isi_tup_bool {p : Addr} {xs : List V} (h : H p = some (.tup xs)) (q : Q (.bl false) H) : gIsi K [.ref p, .ty "bool"] H Q := isi_1 (ty_tup h) kb_tup_bool q
theorem kb_tup_list : kitB "tuple" "list" = some false := by decide +kernel
theorem isi_tup_list {p : Addr} {xs : List V} (h : H p = some (.tup xs)) (q : Q (.bl false) H) : gIsi K [.ref p, .ty "list"] H Q := isi_1 (ty_tup h) kb_tup_list q
theorem kb_tup_tuple : kitB "tuple" "tuple" = some true := by decide +kernel
theorem isi_tup_tuple {p : Addr} {xs : List V} (h : H p = some (.tup xs)) (q : Q (.bl true) H) : gIsi K [.ref p, .ty "tuple"] H Q := isi_1 (ty_tup h) kb_tup_tuple q
theorem isi2_tup {tp : Addr} {p : Addr} {xs : List V} (h : H p = some (.tup xs)) (ht : H tp = some (.tup [.ty "list", .ty "tuple"])) (q : Q (.bl true) H) : gIsi K [.ref p, .ref tp] H Q := isi_2 ht (ty_tup h) kb_tup_list kb_tup_tuple q
end

/-! ### the same data twice -/
mutual
inductive Sm (B : Hp) : Nat → V → V → Prop
  | non {n : Nat} : Sm B n .non .non
  | bl {n : Nat} (b : Bool) : Sm B n (.bl b) (.bl b)
  | int {n : Nat} (i : Int) : Sm B n (.int i) (.int i)
  | str {n : Nat} (z : Str) : Sm B n (.str z) (.str z)
  | lst {n : Nat} {p q : Addr} {xs ys : List V} : B p = some (.lst xs) → B q = some (.lst ys) → xs.length ≤ 100000 → Sms B n xs ys → Sm B (n + 1) (.ref p) (.ref q)
  | tup {n : Nat} {p q : Addr} {xs ys : List V} : B p = some (.tup xs) → B q = some (.tup ys) → xs.length ≤ 100000 → Sms B n xs ys → Sm B (n + 1) (.ref p) (.ref q)
inductive Sms (B : Hp) : Nat → List V → List V → Prop
  | nil {n : Nat} : Sms B n [] []
  | cons {n : Nat} {x y : V} {xs ys : List V} : Sm B n x y → Sms B n xs ys → Sms B n (x :: xs) (y :: ys)
end
mutual
theorem Sm.mono {B B' : Hp} (s : Same B B') : ∀ {n : Nat} {x y : V}, Sm B n x y → Sm B' n x y
  | _, _, _, .non => .non
  | _, _, _, .bl b => .bl b
  | _, _, _, .int i => .int i
  | _, _, _, .str z => .str z
  | _, _, _, .lst h1 h2 h3 h4 => .lst (s _ _ h1) (s _ _ h2) h3 (Sms.mono s h4)
  | _, _, _, .tup h1 h2 h3 h4 => .tup (s _ _ h1) (s _ _ h2) h3 (Sms.mono s h4)
theorem Sms.mono {B B' : Hp} (s : Same B B') : ∀ {n : Nat} {xs ys : List V}, Sms B n xs ys → Sms B' n xs ys
  | _, _, _, .nil => .nil
  | _, _, _, .cons h t => .cons (Sm.mono s h) (Sms.mono s t)
end
theorem Sms.length {B : Hp} {n : Nat} : ∀ {xs ys : List V}, Sms B n xs ys → xs.length = ys.length
  | _, _, .nil => rfl
  | _, _, .cons _ t => by rw [List.length_cons, List.length_cons, t.length]
theorem Sms.at {B : Hp} {n : Nat} : ∀ {xs ys : List V} {i : Nat} {x y : V}, Sms B n xs ys → xs[i]? = some x → ys[i]? = some y → Sm B n x y
  | _, _, _, _, _, .nil, h, _ => by simp at h
  | _, _, 0, _, _, .cons h _, h1, h2 => by
    have e1 := Option.some.inj h1
    have e2 := Option.some.inj h2
    rw [← e1, ← e2]; exact h
  | _, _, i + 1, _, _, .cons _ t, h1, h2 => t.at (i := i) (by simpa using h1) (by simpa using h2)
theorem Sms.ints {B : Hp} {n : Nat} : ∀ ns : List Int, Sms B n (ns.map V.int) (ns.map V.int)
  | [] => .nil
  | _ :: ns => .cons (.int _) (Sms.ints ns)
theorem Sms.strs {B : Hp} {n : Nat} : ∀ ns : List Str, Sms B n (ns.map V.str) (ns.map V.str)
  | [] => .nil
  | _ :: ns => .cons (.str _) (Sms.strs ns)
theorem Sms.ix {B : Hp} {n : Nat} : ∀ {xs ys : List V}, xs.length = ys.length → (∀ (i : Nat) x y, xs[i]? = some x → ys[i]? = some y → Sm B n x y) → Sms B n xs ys
  | [], [], _, _ => .nil
  | [], _ :: _, h, _ => by simp at h
  | _ :: _, [], h, _ => by simp at h
  | x :: xs, y :: ys, h, f => .cons (f 0 x y rfl rfl) (Sms.ix (by simpa using h) fun i a b h1 h2 => f (i + 1) a b (by simpa using h1) (by simpa using h2))
/-- of depth below n both are the same: then True is told -/
def spSame : Nat → Sp
  | 0 => fun _ _ _ _ => False
  | n + 1 => fun vs H Q _ => ∃ (x y : V) (B : Hp), vs = [x, y] ∧ Same B H ∧ Sm B n x y ∧ ∀ H', Same H H' → Q (.bl true) H'

theorem use_same {a : Addr} {B0 H0 B H : Hp} {n m : Nat} {x y : V} {Q : VK} {E : XK} (S : St a B0 H0 n B H) (h : Sm B m x y) (q : ∀ H', St a B0 H0 n B H' → Oth a B H B H' → Q (.bl true) H') : spSame (m + 1) [x, y] H Q E :=
  ⟨x, y, B, rfl, S.sub, h, fun H' s => q H' (S.pure s) ⟨fun q o _ e => s q o e, fun _ _ => rfl⟩⟩
theorem use_sameP {B0 H0 B H : Hp} {m : Nat} {x y : V} {Q : VK} {E : XK} (S : Pu B0 H0 B H) (h : Sm B m x y) (q : ∀ H', Pu B0 H0 B H' → Old B H B H' → Q (.bl true) H') : spSame (m + 1) [x, y] H Q E :=
  ⟨x, y, B, rfl, S.sub, h, fun H' s => q H' (S.pure s) ⟨s, fun _ _ => rfl⟩⟩
/-- a draws' list that is made here -/
theorem St.made {a : Addr} {B : Hp} {n : Nat} {xs : List V} (h : B a = none) (hl : LeftO n (.lst xs)) : St a B (upd B a (.lst xs)) n B (upd B a (.lst xs)) :=
  St.new (Same.updN h) ⟨_, upd_same, hl⟩ h
theorem St.back {a : Addr} {B H B' H' : Hp} {n : Nat} (S : St a B H n B' H') : Same B H' := S.kn.trans S.sub
theorem all_bl : ∀ {n : Nat} {xs : List V}, xs.length = n → (∀ (i : Nat) v, xs[i]? = some v → v = .bl true) → xs = (List.replicate n true).map V.bl
  | 0, [], _, _ => rfl
  | n + 1, x :: xs, h, f => by
    rw [List.replicate_succ, List.map_cons, f 0 x rfl, ← all_bl (n := n) (xs := xs) (by simpa using h) fun i v e => f (i + 1) v (by simpa using e)]

/-! ### walks: n turns while G holds, Y tells what a turn gives -/
structure Wk (J : It) (n : Nat) (G : Hp → Prop) (Y : Nat → V → Hp → Hp → Prop) : Prop where
  go : ∀ i H, i < n → G H → J.go i H
  stop : ∀ H, G H → J.stop n H
  yld : ∀ i H x H', i < n → G H → J.yld i H x H' → Y i x H H'
theorem wk_rng (lo : Int) (n : Nat) : Wk (Itr lo n) n (fun _ => True) (fun i x H H' => H' = H ∧ x = .int (lo + i)) :=
  ⟨fun _ _ h _ => h, fun _ _ => Nat.le_refl _, fun _ _ _ _ _ _ y => y⟩
section
variable {K : PySem.W.Frag}
theorem wk_list (a : Addr) (xs : List V) : Wk (Itl K a) xs.length (fun H => SqL K H a xs) (fun i x H H' => H' = H ∧ xs[i]? = some x) :=
  ⟨fun i _ h g => ⟨xs, xs[i], g, List.getElem?_eq_getElem h⟩, fun _ g => ⟨xs, g, Nat.le_refl _⟩, fun _ _ _ _ _ g y => ⟨y.1, y.2 xs g⟩⟩
theorem wk_tup (a : Addr) (xs : List V) : Wk (Itt K a) xs.length (fun H => SqT K H a xs) (fun i x H H' => H' = H ∧ xs[i]? = some x) :=
  ⟨fun i _ h g => ⟨xs, xs[i], g, List.getElem?_eq_getElem h⟩, fun _ g => ⟨xs, g, Nat.le_refl _⟩, fun _ _ _ _ _ g y => ⟨y.1, y.2 xs g⟩⟩
theorem wk_str (z : Str) : Wk (Its z) (tl z).length (fun _ => True) (fun i x H H' => H' = H ∧ ∃ c, (tl z)[i]? = some c ∧ x = .str ⟨#[c]⟩) :=
  ⟨fun _ _ h _ => (by rw [Array.length_toList] at h; exact h), fun _ _ => (by show _ ≤ _; rw [Array.length_toList]; exact Nat.le_refl _), fun i _ _ _ _ _ y => ⟨y.1, by
    obtain ⟨c, e, r⟩ := y.2
    exact ⟨c, by rw [← e]; exact Array.getElem?_toList, r⟩⟩⟩
theorem wk_zip (a b : Addr) (xs ys : List V) : Wk (Itz K a b) (min xs.length ys.length) (fun H => SqL K H a xs ∧ SqL K H b ys)
    (fun i v H H' => ∃ T x y, v = .ref T ∧ H T = none ∧ H' = upd H T (.tup [x, y]) ∧ xs[i]? = some x ∧ ys[i]? = some y) :=
  ⟨fun i _ h g => ⟨xs, ys, xs[i]'(by omega), ys[i]'(by omega), g.1, g.2, List.getElem?_eq_getElem (by omega), List.getElem?_eq_getElem (by omega)⟩,
    fun _ g => ⟨xs, ys, g.1, g.2, by omega⟩, fun _ _ _ _ _ g y => by
    obtain ⟨T, x, y', e, hT, eH, f1, f2⟩ := y
    exact ⟨T, x, y', e, hT, eH, f1 xs g.1, f2 ys g.2⟩⟩
theorem wk_zipT (a b : Addr) (xs ys : List V) : Wk (ItzT K a b) (min xs.length ys.length) (fun H => SqT K H a xs ∧ SqT K H b ys)
    (fun i v H H' => ∃ T x y, v = .ref T ∧ H T = none ∧ H' = upd H T (.tup [x, y]) ∧ xs[i]? = some x ∧ ys[i]? = some y) :=
  ⟨fun i _ h g => ⟨xs, ys, xs[i]'(by omega), ys[i]'(by omega), g.1, g.2, List.getElem?_eq_getElem (by omega), List.getElem?_eq_getElem (by omega)⟩,
    fun _ g => ⟨xs, ys, g.1, g.2, by omega⟩, fun _ _ _ _ _ g y => by
    obtain ⟨T, x, y', e, hT, eH, f1, f2⟩ := y
    exact ⟨T, x, y', e, hT, eH, f1 xs g.1, f2 ys g.2⟩⟩
def Zp1 (K : PySem.W.Frag) (R : It → Hp → Prop) (vs : List V) (H1 : Hp) : Prop := ∃ a b xs ys, vs = [.ref a, .ref b] ∧ ((SqL K H1 a xs ∧ SqL K H1 b ys ∧ R (Itz K a b) H1) ∨ (SqT K H1 a xs ∧ SqT K H1 b ys ∧ R (ItzT K a b) H1))
theorem g_izip {ts : TA} {σ : L2.St} {H : Hp} {R : It → Hp → Prop} (h : ts σ H (Zp1 K R)) : iZipA K ts σ H R := h
def En1 (K : PySem.W.Frag) (R : It → Hp → Prop) (vs : List V) (H1 : Hp) : Prop := ∃ a xs, vs = [.ref a] ∧ SqL K H1 a xs ∧ R (Ite K a) H1
theorem g_ienum {ts : TA} {σ : L2.St} {H : Hp} {R : It → Hp → Prop} (h : ts σ H (En1 K R)) : iEnum K ts σ H R := h
theorem wk_enum (a : Addr) (xs : List V) : Wk (Ite K a) xs.length (fun H => SqL K H a xs) (fun i v H H' => ∃ T x, v = .ref T ∧ H T = none ∧ H' = upd H T (.tup [.int i, x]) ∧ xs[i]? = some x) :=
  ⟨fun i _ h g => ⟨xs, xs[i], g, List.getElem?_eq_getElem h⟩, fun _ g => ⟨xs, g, Nat.le_refl _⟩, fun _ _ _ _ _ g y => by
    obtain ⟨T, x, e, hT, eH, f1⟩ := y
    exact ⟨T, x, e, hT, eH, f1 xs g⟩⟩
end
section
variable {σ : L2.St} {H : Hp} {Q : VK} {g : TG} {tt : TT} {te : TE} {vs : List Nat} {tb : TS} {J : It} {n : Nat} {G : Hp → Prop} {Y : Nat → V → Hp → Hp → Prop}
/-- a for loop: Pv by the turn -/
theorem for_wk {nx b c : L2.St → Hp → Prop} {r : VK} (W : Wk J n G Y) (Pv : Nat → L2.St → Hp → Prop) (h0 : Pv 0 σ H) (hG : ∀ i σ' H', i ≤ n → Pv i σ' H' → G H')
    (hs : ∀ i x σ' H' H'', i < n → Pv i σ' H' → Y i x H' H'' → g x σ' H'' fun σ2 H2 => tb ⟨Pv (i + 1), r, nx, Pv (i + 1)⟩ σ2 H2) (hd : ∀ σ' H', Pv n σ' H' → nx σ' H') : FoB g tb ⟨nx, r, b, c⟩ σ J H := by
  refine ⟨fun i m σ H => m = n - i ∧ i ≤ n ∧ Pv i σ H, ⟨n, by simp, Nat.zero_le _, h0⟩, ?_⟩
  rintro i m σ H ⟨rfl, hi, p⟩
  by_cases hlt : i < n
  · exact .inr ⟨W.go i H hlt (hG i σ H hi p), Pv (i + 1), fun σ' H' p' => ⟨n - (i + 1), by omega, rfl, hlt, p'⟩, fun x H' y => hs i x σ H H' hlt p (W.yld i H x H' hlt (hG i σ H hi p) y)⟩
  · have e : i = n := by omega
    subst e
    exact .inl ⟨W.stop H (hG i σ H hi p), hd σ H p⟩
/-- a comprehension's turn: kept, or passed over -/
def LcT (tt : TT) (te : TE) (vs : List Nat) (σ : L2.St) (Qk : VK) (Qn : Hp → Prop) : L2.St → Hp → Prop := fun σ2 H2 => wipe σ2 vs = wipe σ vs ∧ tt σ2 H2 fun b H3 => if b = true then te σ2 H3 Qk else Qn H3
theorem LcT.mk {Qk : VK} {Qn : Hp → Prop} {σ2 : L2.St} {H2 : Hp} (h1 : wipe σ2 vs = wipe σ vs) (h2 : tt σ2 H2 fun b H3 => if b = true then te σ2 H3 Qk else Qn H3) : LcT tt te vs σ Qk Qn σ2 H2 := ⟨h1, h2⟩
/-- a list comprehension that changes nothing: I by the turn and by what is made so far -/
theorem Pu.lc {B0 H0 B H : Hp} (S : Pu B0 H0 B H) (W : Wk J n G Y) (hn : n ≤ 1000000) (hG : ∀ H', Same B H' → G H') (I : Nat → Hp → List V → Prop) (h0 : I 0 B []) (mono : ∀ i B B' acc, Same B B' → I i B acc → I i B' acc)
    (hs : ∀ (i : Nat) x acc B1 H1 H1', i < n → Same B B1 → Same B1 H1 → Y i x H1 H1' → I i B1 acc → acc.length ≤ i → ∀ (Qk : VK) (Qn : Hp → Prop), (∀ v B2 H2, Pu B1 H1 B2 H2 → I (i + 1) B2 (acc ++ [v]) → Qk v H2) →
      (∀ B2 H2, Pu B1 H1 B2 H2 → I (i + 1) B2 acc → Qn H2) → g x (wipe σ vs) H1' (LcT tt te vs σ Qk Qn))
    (q : ∀ p B' H' acc, Pu B0 H0 B' H' → Old B H B' H' → Same B B' → H p = none → B' p = some (.lst acc) → I n B' acc → Q (.ref p) H') : LcB g tt te vs σ Q J H := by
  intro D hD
  have hD0 : H0 D = none := S.free0 hD
  refine ⟨fun i m H' => m = n - i ∧ i ≤ n ∧ ∃ B1 acc, Pu B0 H0 B1 H' ∧ Old B H B1 H' ∧ Same B B1 ∧ B1 D = none ∧ H' D = some (.lst acc) ∧ acc.length ≤ i ∧ I i B1 acc,
    ⟨n, by simp, Nat.zero_le _, B, [], S.vol hD, ⟨Same.updN hD, fun _ _ => rfl⟩, Same.refl _, S.free hD, upd_same, Nat.le_refl _, h0⟩, ?_⟩
  rintro i m H1 ⟨rfl, hi, B1, acc, S1, O1, K1, hb, hx, hl, hI⟩
  have g1 : G H1 := hG _ (K1.trans S1.sub)
  have some_ : ∀ q, H q ≠ none → H1 q ≠ none := fun q hq => by
    cases z : H q with
    | none => exact absurd z hq
    | some u => rw [O1.st q u z]; exact fun z => nomatch z
  by_cases hlt : i < n
  · refine .inr ⟨W.go i H1 hlt g1, fun H2 => ∃ B2 acc', Pu B0 H0 B2 H2 ∧ Old B H B2 H2 ∧ Same B B2 ∧ B2 D = none ∧ H2 D = some (.lst acc') ∧ acc'.length ≤ i + 1 ∧ I (i + 1) B2 acc', fun H2 p => ⟨n - (i + 1), by omega, rfl, hlt, p⟩, fun x H1' y => ?_⟩
    refine hs i x acc B1 H1 H1' hlt K1 S1.sub (W.yld i H1 x H1' hlt g1 y) hI hl _ _ (fun v B2 H2 S2 r => ?_) (fun B2 H2 S2 r => ?_)
    · have hx2 : H2 D = some (.lst acc) := S2.old _ _ hx
      have hb2 : B2 D = none := by rw [S2.fr D (by rw [hx]; exact fun z => nomatch z)]; exact hb
      have S3 := S1.trans S2
      exact ⟨acc, hx2, szl'' (by omega), B2, acc ++ [v], S3.put hD0 hb2, ⟨fun q u e => by
          have : q ≠ D := fun z => by rw [z, hD] at e; cases e
          rw [upd_ne this]; exact S2.old _ _ (O1.st q u e), fun q hq => by rw [S2.fr q (some_ q hq)]; exact O1.fr q hq⟩, K1.trans S2.kn, hb2, upd_same, by rw [List.length_append]; exact Nat.succ_le_succ hl, r⟩
    · have hx2 : H2 D = some (.lst acc) := S2.old _ _ hx
      have hb2 : B2 D = none := by rw [S2.fr D (by rw [hx]; exact fun z => nomatch z)]; exact hb
      exact ⟨B2, acc, S1.trans S2, ⟨O1.st.trans S2.old, fun q hq => by rw [S2.fr q (some_ q hq)]; exact O1.fr q hq⟩, K1.trans S2.kn, hb2, hx2, Nat.le_succ_of_le hl, r⟩
  · have e : i = n := by omega
    subst e
    refine .inl ⟨W.stop H1 g1, q D _ H1 acc (S1.know hx hD0 hb) ⟨O1.st, fun q hq => ?_⟩ (K1.trans (Same.updN hb)) hD upd_same (mono _ _ _ _ (Same.updN hb) hI)⟩
    have : q ≠ D := fun z => hq (z ▸ hD)
    rw [upd_ne this]; exact O1.fr q hq
/-- a list comprehension that draws, cost times at most a turn -/
theorem St.lc {a : Addr} {B0 H0 B H : Hp} {k cost : Nat} (S : St a B0 H0 k B H) (W : Wk J n G Y) (hn : n ≤ 1000000) (hk : n * cost ≤ k) (hG : ∀ H', Same B H' → G H') (I : Nat → Hp → List V → Prop) (h0 : I 0 B []) (mono : ∀ i B B' acc, Same B B' → I i B acc → I i B' acc)
    (hs : ∀ (i : Nat) x acc B1 H1 H1' k1, i < n → Same B B1 → St a B1 H1 k1 B1 H1 → cost ≤ k1 → Y i x H1 H1' → I i B1 acc → acc.length ≤ i → ∀ (Qk : VK) (Qn : Hp → Prop), (∀ v B2 H2, St a B1 H1 (k1 - cost) B2 H2 → I (i + 1) B2 (acc ++ [v]) → Qk v H2) →
      (∀ B2 H2, St a B1 H1 (k1 - cost) B2 H2 → I (i + 1) B2 acc → Qn H2) → g x (wipe σ vs) H1' (LcT tt te vs σ Qk Qn))
    (q : ∀ p B' H' acc, St a B0 H0 (k - n * cost) B' H' → Oth a B H B' H' → Same B B' → H p = none → B' p = some (.lst acc) → I n B' acc → Q (.ref p) H') : LcB g tt te vs σ Q J H := by
  intro D hD
  have hD0 : H0 D = none := S.free0 hD
  have hDa : D ≠ a := S.nea hD
  refine ⟨fun i m H' => m = n - i ∧ i ≤ n ∧ ∃ B1 acc, St a B0 H0 (k - i * cost) B1 H' ∧ Oth a B H B1 H' ∧ Same B B1 ∧ B1 D = none ∧ H' D = some (.lst acc) ∧ acc.length ≤ i ∧ I i B1 acc,
    ⟨n, by simp, Nat.zero_le _, B, [], (S.vol hD).le (by omega), ⟨fun q u _ e => Same.updN hD q u e, fun _ _ => rfl⟩, Same.refl _, S.free hD, upd_same, Nat.le_refl _, h0⟩, ?_⟩
  rintro i m H1 ⟨rfl, hi, B1, acc, S1, O1, K1, hb, hx, hl, hI⟩
  have g1 : G H1 := hG _ (K1.trans S1.sub)
  have some_ : ∀ q, H q ≠ none → H1 q ≠ none := fun q hq => by
    by_cases hqa : q = a
    · rw [hqa]; exact S1.has
    · cases z : H q with
      | none => exact absurd z hq
      | some u => rw [O1.st q u hqa z]; exact fun z => nomatch z
  by_cases hlt : i < n
  · have c1 : (i + 1) * cost ≤ n * cost := Nat.mul_le_mul_right _ hlt
    have c2 : (i + 1) * cost = i * cost + cost := Nat.succ_mul _ _
    refine .inr ⟨W.go i H1 hlt g1, fun H2 => ∃ B2 acc', St a B0 H0 (k - (i + 1) * cost) B2 H2 ∧ Oth a B H B2 H2 ∧ Same B B2 ∧ B2 D = none ∧ H2 D = some (.lst acc') ∧ acc'.length ≤ i + 1 ∧ I (i + 1) B2 acc', fun H2 p => ⟨n - (i + 1), by omega, rfl, hlt, p⟩, fun x H1' y => ?_⟩
    refine hs i x acc B1 H1 H1' (k - i * cost) hlt K1 (.new S1.sub S1.left S1.na) (by omega) (W.yld i H1 x H1' hlt g1 y) hI hl _ _ (fun v B2 H2 S2 r => ?_) (fun B2 H2 S2 r => ?_)
    · have hx2 : H2 D = some (.lst acc) := S2.oth _ _ hDa hx
      have hb2 : B2 D = none := by rw [S2.fr D (by rw [hx]; exact fun z => nomatch z)]; exact hb
      have S3 := S1.trans S2
      exact ⟨acc, hx2, szl'' (by omega), B2, acc ++ [v], (S3.put hD0 hb2 hDa).le (by omega), ⟨fun q u hqa e => by
          have : q ≠ D := fun z => by rw [z, hD] at e; cases e
          rw [upd_ne this]; exact S2.oth _ _ hqa (O1.st q u hqa e), fun q hq => by rw [S2.fr q (some_ q hq)]; exact O1.fr q hq⟩, K1.trans S2.kn, hb2, upd_same, by rw [List.length_append]; exact Nat.succ_le_succ hl, r⟩
    · have hx2 : H2 D = some (.lst acc) := S2.oth _ _ hDa hx
      have hb2 : B2 D = none := by rw [S2.fr D (by rw [hx]; exact fun z => nomatch z)]; exact hb
      exact ⟨B2, acc, (S1.trans S2).le (by omega), ⟨fun q u hqa e => S2.oth _ _ hqa (O1.st q u hqa e), fun q hq => by rw [S2.fr q (some_ q hq)]; exact O1.fr q hq⟩, K1.trans S2.kn, hb2, hx2, Nat.le_succ_of_le hl, r⟩
  · have e : i = n := by omega
    subst e
    refine .inl ⟨W.stop H1 g1, q D _ H1 acc (S1.know hx hD0 hb hDa) ⟨O1.st, fun q hq => ?_⟩ (K1.trans (Same.updN hb)) hD upd_same (mono _ _ _ _ (Same.updN hb) hI)⟩
    have : q ≠ D := fun z => hq (z ▸ hD)
    rw [upd_ne this]; exact O1.fr q hq
/-- each turn gives one, under R -/
def Each (R : Nat → Hp → V → Prop) (i : Nat) (B : Hp) (acc : List V) : Prop := acc.length = i ∧ ∀ (j : Nat) v, acc[j]? = some v → R j B v
theorem Each.zero {R : Nat → Hp → V → Prop} {B : Hp} : Each R 0 B [] := ⟨rfl, fun j v e => by simp at e⟩
theorem Each.mono {R : Nat → Hp → V → Prop} (h : ∀ j B B' v, Same B B' → R j B v → R j B' v) : ∀ i B B' acc, Same B B' → Each R i B acc → Each R i B' acc := fun _ _ _ _ s e => ⟨e.1, fun j v ev => h j _ _ v s (e.2 j v ev)⟩
theorem Each.step {R : Nat → Hp → V → Prop} {i : Nat} {B : Hp} {acc : List V} {v : V} (h : Each R i B acc) (r : R i B v) : Each R (i + 1) B (acc ++ [v]) := by
  refine ⟨by rw [List.length_append, h.1]; rfl, fun j u e => ?_⟩
  by_cases hk : j < acc.length
  · rw [List.getElem?_append_left hk] at e
    exact h.2 j u e
  · rw [List.getElem?_append_right (by omega)] at e
    have hk0 : j - acc.length = 0 := by
      cases z : j - acc.length with
      | zero => rfl
      | succ t => rw [z] at e; simp at e
    rw [hk0] at e
    have e1 : v = u := Option.some.inj e
    have e2 : j = i := by have := h.1; omega
    rw [← e1, e2]; exact r
end
end G

namespace G
open PySem PySem.Spec PyProof.Rows L2 TL RZ

/-! ### zip of two texts -/
def ItzS (x y : Str) : It :=
  ⟨fun i _ => i < min x.cps.size y.cps.size, fun i H v H' => ∃ T c d, v = .ref T ∧ H T = none ∧ H' = upd H T (.tup [.str ⟨#[c]⟩, .str ⟨#[d]⟩]) ∧ x.cps[i]? = some c ∧ y.cps[i]? = some d, fun i _ => i = min x.cps.size y.cps.size⟩
theorem turn_zipS {P : Program} {w : World} {K : PySem.W.Frag} {elts : List Expr} {kk : Nat} {tpos : Pos} {z TI TO i1 i2 : Addr} {x y : Str} {t1 t2 : Tok} (S : ZipSep2 z TI TO i1 i2 [i1] [i2]) :
    Turn P w K (.Tuple elts kk tpos) (ItzS x y) [z, TI, TO, i1, i2] z (fun i h => IsZip h z TI TO .none ∧ IsTupOf2 h TI (.ref i1) (.ref i2) ∧ (∃ a b, IsTupOf2 h TO a b) ∧ h.IsStrIter i1 (strIterType x) x t1 i ∧ h.IsStrIter i2 (strIterType y) y t2 i) where
  mem := by simp
  obj := fun i h st c hc => by
    obtain ⟨hz, hTI, ⟨a, b, hTO⟩, ⟨o1, e1, _, d1⟩, ⟨o2, e2, _, d2⟩⟩ := st
    have e' : c = z ∨ c = TI ∨ c = TO ∨ c = i1 ∨ c = i2 := by simpa using hc
    rcases e' with q | q | q | q | q
    · rw [q]; exact ⟨_, hz, fun v q => nomatch q⟩
    · rw [q]; exact ⟨_, hTI, fun v q => nomatch q⟩
    · rw [q]; exact ⟨_, hTO, fun v q => nomatch q⟩
    · rw [q]; exact ⟨o1, e1, fun v q => by rw [d1] at q; cases q⟩
    · rw [q]; exact ⟨o2, e2, fun v q => by rw [d2] at q; cases q⟩
  keep := fun i h h' st k => by
    obtain ⟨hz, hTI, ⟨a, b, hTO⟩, ⟨o1, e1, r1⟩, ⟨o2, e2, r2⟩⟩ := st
    exact ⟨k z (by simp) _ hz, k TI (by simp) _ hTI, ⟨a, b, k TO (by simp) _ hTO⟩, ⟨o1, k i1 (by simp) _ e1, r1⟩, ⟨o2, k i2 (by simp) _ e2, r2⟩⟩
  item := by
    intro X hP hw hK hc i pins s σ H E I hf st hg
    subst hP hw hK
    have W := WalksT.zipD2 (prog := X.prog) (w := X.w) (A := X.A) S (Draws.text (A := X.A.in1) (I.ok.hd hc) i1 x t1) (Draws.text (A := X.A.in1) (I.ok.hd hc) i2 y t2)
    have lts : ∀ c ∈ [z, TI, TO, i1, i2], c < s.heap.objs.size := fun c hcm => by
      obtain ⟨hz, hTI, ⟨a, b, hTO⟩, ⟨o1, e1, _, d1⟩, ⟨o2, e2, _, d2⟩⟩ := st
      have e' : c = z ∨ c = TI ∨ c = TO ∨ c = i1 ∨ c = i2 := by simpa using hcm
      rcases e' with q | q | q | q | q
      · rw [q]; exact Heap.lt_size hz
      · rw [q]; exact Heap.lt_size hTI
      · rw [q]; exact Heap.lt_size hTO
      · rw [q]; exact Heap.lt_size e1
      · rw [q]; exact Heap.lt_size e2
    refine W.item i s _ _ hg st fun T vals h' tk hP hle hT hm hk => ?_
    obtain ⟨v1, v2, ⟨c, u1, hc1, rfl⟩, ⟨d, u2, hd1, rfl⟩, rfl⟩ := hP
    refine ⟨_, rfl, W.go elts kk tpos i T { s with heap := h', toks := tk } _ _ hm fun h'' st'' hk'' => ?_⟩
    have hT2 := hT.at (h' := h'') fun o e => hk'' T o (W.apart i T h' hm) e
    have new : ObjOk X.prog X.w (upd H T (.tup [.str ⟨#[c]⟩, .str ⟨#[d]⟩])) h'' T (.tup [.str ⟨#[c]⟩, .str ⟨#[d]⟩]) :=
      ⟨by show 2 ≤ sizeLine; decide, [.str ⟨#[c]⟩ u1, .str ⟨#[d]⟩ u2], .cons ⟨_, rfl⟩ (.cons ⟨_, rfl⟩ .nil), hT2⟩
    have I1 : Inv X pins σ (upd H T (.tup [.str ⟨#[c]⟩, .str ⟨#[d]⟩])) { s with heap := h'', toks := tk } :=
      I.turnedNew (t' := tk) (ch := [z, TI, TO, i1, i2]) (fun c o hb q => hk'' c o (fun q' => hb (by
          have e' : c = z ∨ c = TO ∨ c = i1 ∨ c = i2 := by simpa using q'
          rcases e' with q | q | q | q <;> simp [q])) (hk c o (fun q' => hb (by
          have e' : c = z ∨ c = TO ∨ c = i1 ∨ c = i2 := by simpa using q'
          rcases e' with q | q | q | q <;> simp [q])) q)) hf hle new
    refine ⟨.ref T, _, I1, rfl, ⟨T, c, d, rfl, I.hok.fresh hle, rfl, hc1, hd1⟩, st'', fun c hcm => ?_⟩
    rw [upd_ne (Nat.ne_of_lt (Nat.lt_of_lt_of_le (lts c hcm) hle))]
    exact (hf c hcm).1
  done := by
    intro X hP hw hK hc i pins s σ H E I hf st hg
    subst hP hw hK
    have W := WalksT.zipD2 (prog := X.prog) (w := X.w) (A := X.A) S (Draws.text (A := X.A.in1) (I.ok.hd hc) i1 x t1) (Draws.text (A := X.A.in1) (I.ok.hd hc) i2 y t2)
    have hg' : i = min x.cps.size y.cps.size := hg
    subst hg'
    exact W.done s _ _ st fun h' tk hk => ⟨rfl, I.turnedL (t' := tk) (ch := [z, TI, TO, i1, i2]) (fun c o hb q => hk c o (fun q' => hb (by
          have e' : c = z ∨ c = TO ∨ c = i1 ∨ c = i2 := by simpa using q'
          rcases e' with q | q | q | q <;> simp [q])) q) hf⟩
  self := fun A i s Q E st h => wpAny_pyIter_zip st.1 h
theorem pi_zipS {X : Cx} {e e2 : Expr} {ta : TA} {p pos tpos : Pos} {elts : List Expr} {kk : Nat} (hg : Gl X "zip") (hm : X.mg "zip" = none) (ha : PA X [e, e2] ta)
    (hs : starEach [e, e2] X.env = (false, eval e X.env) :: starEach [e2] X.env := by rfl) (hpl : (backTo pos (starEach [e2] X.env)).any (·.1) = false := by rfl) :
    PI X (.Tuple elts kk tpos) (.Call (.Name "zip" p) [e, e2] [] pos) (fun σ H R => ta σ H fun vs H1 => ∃ x y, vs = [.str x, .str y] ∧ R (ItzS x y) H1) := by
  refine ⟨fun pins s σ H R I h => ?_⟩
  refine Call_ (ld_blt I hg hm PyProof.Rows.boot_zip (PyProof.Rows.callWith_type1 (thn (ha.run pos pins s σ H _ I h) fun us s1 ⟨vs, H1, I1, r1, q1⟩ => ?_) hs hpl))
  obtain ⟨x, y, ex, q1⟩ := q1
  subst ex
  cases r1 with
  | cons r rr =>
    cases rr with
    | cons r' rr =>
      cases rr
      obtain ⟨t1, rfl⟩ := r
      obtain ⟨t2, rfl⟩ := r'
      refine zip_begins2 (begins_text x t1) (begins_text y t2) trivial trivial fun h' hz hTI hTO h1 h2 hsz hk => wpAny_pyIter_zip hz ?_
      have I2 : Inv X pins σ H1 { s1 with heap := h' } := I1.kept (t' := s1.toks) hk
      have fresh5 : ∀ c, c ∈ [s1.heap.objs.size + 4, s1.heap.objs.size + 2, s1.heap.objs.size + 3, s1.heap.objs.size, s1.heap.objs.size + 1] → FpOk X pins H1 c := fun c hcm => by
        have e' : c = s1.heap.objs.size + 4 ∨ c = s1.heap.objs.size + 2 ∨ c = s1.heap.objs.size + 3 ∨ c = s1.heap.objs.size ∨ c = s1.heap.objs.size + 1 := by simpa using hcm
        have hle : s1.heap.objs.size ≤ c := by
          rcases e' with z | z | z | z | z
          · rw [z]; exact Nat.le_add_right _ _
          · rw [z]; exact Nat.le_add_right _ _
          · rw [z]; exact Nat.le_add_right _ _
          · rw [z]; exact Nat.le_refl _
          · rw [z]; exact Nat.le_add_right _ _
        exact I1.fpOk hle (I1.hok.fresh hle)
      exact ⟨s1.heap.objs.size + 4, [s1.heap.objs.size + 4, s1.heap.objs.size + 2, s1.heap.objs.size + 3, s1.heap.objs.size, s1.heap.objs.size + 1], _, _, H1, rfl, I2,
        turn_zipS (zip_sep2 (fp1 := []) (fp2 := []) (fun _ h => nomatch h) (fun _ h => nomatch h)), ⟨hz, hTI, ⟨_, _, hTO⟩, ⟨_, h1, rfl, rfl⟩, ⟨_, h2, rfl, rfl⟩⟩, fresh5, q1⟩
def ZpS (R : It → Hp → Prop) (vs : List V) (H1 : Hp) : Prop := ∃ x y, vs = [.str x, .str y] ∧ R (ItzS x y) H1
def iZipS (ta : TA) : TI := fun σ H R => ta σ H (ZpS R)
theorem pi_zipSS {X : Cx} {e e2 : Expr} {ta : TA} {p pos tpos : Pos} {elts : List Expr} {kk : Nat} (hg : Gl X "zip") (hm : X.mg "zip" = none) (ha : PA X [e, e2] ta)
    (hs : starEach [e, e2] X.env = (false, eval e X.env) :: starEach [e2] X.env := by rfl) (hpl : (backTo pos (starEach [e2] X.env)).any (·.1) = false := by rfl) :
    PI X (.Tuple elts kk tpos) (.Call (.Name "zip" p) [e, e2] [] pos) (iZipS ta) := pi_zipS hg hm ha hs hpl
theorem g_izipS {ts : TA} {σ : L2.St} {H : Hp} {R : It → Hp → Prop} (h : ts σ H (ZpS R)) : iZipS ts σ H R := h
theorem wk_zipS (x y : Str) : Wk (ItzS x y) (min (tl x).length (tl y).length) (fun _ => True)
    (fun i v H H' => ∃ T c d, v = .ref T ∧ H T = none ∧ H' = upd H T (.tup [.str ⟨#[c]⟩, .str ⟨#[d]⟩]) ∧ (tl x)[i]? = some c ∧ (tl y)[i]? = some d) :=
  ⟨fun i _ h _ => (by show i < _; rw [Array.length_toList, Array.length_toList] at h; exact h), fun _ _ => (by show _ = _; rw [Array.length_toList, Array.length_toList]), fun i _ _ _ _ _ y => by
    obtain ⟨T, c, d, e, hT, eH, h1, h2⟩ := y
    exact ⟨T, c, d, e, hT, eH, by rw [← h1]; exact Array.getElem?_toList, by rw [← h2]; exact Array.getElem?_toList⟩⟩
end G

namespace G
open PySem PySem.Spec PyProof.Rows L2 TL RZ

/-! ### cuts, membership, == of lists of numbers and of texts -/
theorem cut_take {α : Type} (f : α → V) (xs : List α) (k : Nat) : cutV (xs.map f) none (some (k : Int)) = (xs.take k).map f := by
  unfold cutV
  rw [HT.sIx_none, HT.sIx_nat, List.drop_zero, Nat.sub_zero, ← List.map_take, List.length_map]
  by_cases h : k ≤ xs.length
  · rw [Nat.min_eq_left h]
  · rw [Nat.min_eq_right (by omega), List.take_of_length_le (Nat.le_refl _), List.take_of_length_le (by omega)]
theorem cut_drop {α : Type} (f : α → V) (xs : List α) (k : Nat) : cutV (xs.map f) (some (k : Int)) none = (xs.drop k).map f := by
  unfold cutV
  rw [HT.sIx_none, HT.sIx_nat, List.length_map, ← List.map_drop]
  by_cases h : k ≤ xs.length
  · rw [Nat.min_eq_left h]
    exact List.take_of_length_le (by rw [List.length_map, List.length_drop]; exact Nat.le_refl _)
  · rw [Nat.min_eq_right (by omega), Nat.sub_self, List.take_zero, List.drop_of_length_le (by omega)]; rfl
theorem cut_mid {α : Type} (f : α → V) (xs : List α) (j k : Nat) (hjk : j ≤ k) : cutV (xs.map f) (some (j : Int)) (some (k : Int)) = ((xs.drop j).take (k - j)).map f := by
  unfold cutV
  rw [HT.sIx_nat, HT.sIx_nat, List.length_map, ← List.map_drop, ← List.map_take]
  by_cases h : k ≤ xs.length
  · rw [Nat.min_eq_left h, Nat.min_eq_left (by omega)]
  · by_cases h2 : j ≤ xs.length
    · rw [Nat.min_eq_right (by omega), Nat.min_eq_left h2, List.take_of_length_le (by rw [List.length_drop]; exact Nat.le_refl _), List.take_of_length_le (by rw [List.length_drop]; omega)]
    · rw [Nat.min_eq_right (by omega), Nat.min_eq_right (by omega), List.drop_of_length_le (show xs.length ≤ j by omega), List.drop_of_length_le (Nat.le_refl _)]; simp
theorem flat_ints (ns : List Int) : (ns.map V.int).all flatV = true := by
  rw [List.all_map, List.all_eq_true]; exact fun _ _ => rfl
theorem flat_strs (ns : List Str) : (ns.map V.str).all flatV = true := by
  rw [List.all_map, List.all_eq_true]; exact fun _ _ => rfl
theorem inV_ints (n : Int) (ns : List Int) : inV (.int n) (ns.map V.int) = decide (n ∈ ns) := by
  unfold inV
  rw [List.any_map, Bool.eq_iff_iff, List.any_eq_true, decide_eq_true_eq]
  constructor
  · rintro ⟨x, hx, e⟩
    have e' : (x == n) = true := e
    rw [beq_iff_eq] at e'
    rw [← e']; exact hx
  · exact fun h => ⟨n, h, by show (n == n) = true; simp⟩
theorem inV_strs (n : Str) (ns : List Str) : inV (.str n) (ns.map V.str) = decide (n ∈ ns) := by
  unfold inV
  rw [List.any_map, Bool.eq_iff_iff, List.any_eq_true, decide_eq_true_eq]
  constructor
  · rintro ⟨x, hx, e⟩
    have e' : (x == n) = true := e
    rw [beq_iff_eq] at e'
    rw [← e']; exact hx
  · exact fun h => ⟨n, h, by show (n == n) = true; simp⟩
section
variable {K : PySem.W.Frag} {H : Hp} {Q : VK}
theorem dps_ints : ∀ ns : List Int, DpAll K H (ns.map V.int) (ns.map PyData.int)
  | [] => .nil
  | n :: ns => .cons (.int n) (dps_ints ns)
theorem dps_strs : ∀ ns : List Str, DpAll K H (ns.map V.str) (ns.map PyData.str)
  | [] => .nil
  | n :: ns => .cons (.str n) (dps_strs ns)
theorem lay_ints : ∀ ns : List Int, PyData.canLayAll0 (ns.map PyData.int) = true
  | [] => rfl
  | n :: ns => by
    rw [List.map_cons, PyData.canLayAll0, lay_ints ns]; rfl
theorem lay_strs : ∀ ns : List Str, (∀ z ∈ ns, PyData.strOk z = true) → PyData.canLayAll0 (ns.map PyData.str) = true
  | [], _ => rfl
  | n :: ns, h => by
    rw [List.map_cons, PyData.canLayAll0, lay_strs ns fun z hz => h z (List.mem_cons_of_mem _ hz)]
    show (PyData.strOk n && true) = true
    rw [h n List.mem_cons_self]; rfl
theorem dep_ints : ∀ ns : List Int, PyData.depthAll (ns.map PyData.int) ≤ 1
  | [] => Nat.zero_le _
  | n :: ns => by
    rw [List.map_cons, PyData.depthAll]
    exact Nat.max_le.mpr ⟨by first | exact Nat.zero_le _ | exact Nat.le_refl _, dep_ints ns⟩
theorem dep_strs : ∀ ns : List Str, PyData.depthAll (ns.map PyData.str) ≤ 1
  | [] => Nat.zero_le _
  | n :: ns => by
    rw [List.map_cons, PyData.depthAll]
    exact Nat.max_le.mpr ⟨by first | exact Nat.zero_le _ | exact Nat.le_refl _, dep_strs ns⟩
theorem eqv_ints : ∀ ns ms : List Int, PyData.eqvAll (ns.map PyData.int) (ms.map PyData.int) = decide (ns = ms)
  | [], [] => rfl
  | [], _ :: _ => rfl
  | _ :: _, [] => rfl
  | n :: ns, m :: ms => by
    rw [List.map_cons, List.map_cons, PyData.eqvAll, eqv_ints ns ms]
    show (n == m && decide (ns = ms)) = decide (n :: ns = m :: ms)
    rw [Bool.eq_iff_iff]; simp
theorem eqv_strs : ∀ ns ms : List Str, PyData.eqvAll (ns.map PyData.str) (ms.map PyData.str) = decide (ns = ms)
  | [], [] => rfl
  | [], _ :: _ => rfl
  | _ :: _, [] => rfl
  | n :: ns, m :: ms => by
    rw [List.map_cons, List.map_cons, PyData.eqvAll, eqv_strs ns ms]
    show (n == m && decide (ns = ms)) = decide (n :: ns = m :: ms)
    rw [Bool.eq_iff_iff]; simp
theorem shaped_ints (ns : List Int) : SeqAt.shaped (.list (ns.map PyData.int)) = true := by
  unfold SeqAt.shaped
  rw [show (PyData.list (ns.map PyData.int)).canLay0 = true from lay_ints ns, Bool.true_and]
  have := dep_ints ns
  refine decide_eq_true ?_
  show PyData.depth (.list (ns.map PyData.int)) ≤ 64
  rw [PyData.depth]; omega
theorem shaped_strs (ns : List Str) (hz : ∀ z ∈ ns, PyData.strOk z = true) : SeqAt.shaped (.list (ns.map PyData.str)) = true := by
  unfold SeqAt.shaped
  rw [show (PyData.list (ns.map PyData.str)).canLay0 = true from lay_strs ns hz, Bool.true_and]
  have := dep_strs ns
  refine decide_eq_true ?_
  show PyData.depth (.list (ns.map PyData.str)) ≤ 64
  rw [PyData.depth]; omega
theorem eq_ints {p q : Addr} {ns ms : List Int} (h1 : H p = some (.lst (ns.map V.int))) (h2 : H q = some (.lst (ms.map V.int))) (h : Q (.bl (decide (ns = ms))) H) : gEq K (.ref p) (.ref q) H Q := by
  refine .inr (.inl ⟨_, _, .lst (.inl (.inl h1)) (dps_ints ns), .lst (.inl (.inl h2)) (dps_ints ms), shaped_ints ns, shaped_ints ms, ?_⟩)
  rw [PyData.eqv, eqv_ints]; exact h
theorem ne_ints {p q : Addr} {ns ms : List Int} (h1 : H p = some (.lst (ns.map V.int))) (h2 : H q = some (.lst (ms.map V.int))) (h : Q (.bl (!decide (ns = ms))) H) : gNe K (.ref p) (.ref q) H Q := by
  refine .inr (.inl ⟨_, _, .lst (.inl (.inl h1)) (dps_ints ns), .lst (.inl (.inl h2)) (dps_ints ms), shaped_ints ns, shaped_ints ms, ?_⟩)
  rw [PyData.eqv, eqv_ints]; exact h
theorem eq_strs {p q : Addr} {ns ms : List Str} (h1 : H p = some (.lst (ns.map V.str))) (h2 : H q = some (.lst (ms.map V.str))) (k1 : ∀ z ∈ ns, PyData.strOk z = true) (k2 : ∀ z ∈ ms, PyData.strOk z = true) (h : Q (.bl (decide (ns = ms))) H) : gEq K (.ref p) (.ref q) H Q := by
  refine .inr (.inl ⟨_, _, .lst (.inl (.inl h1)) (dps_strs ns), .lst (.inl (.inl h2)) (dps_strs ms), shaped_strs ns k1, shaped_strs ms k2, ?_⟩)
  rw [PyData.eqv, eqv_strs]; exact h
theorem ne_strs {p q : Addr} {ns ms : List Str} (h1 : H p = some (.lst (ns.map V.str))) (h2 : H q = some (.lst (ms.map V.str))) (k1 : ∀ z ∈ ns, PyData.strOk z = true) (k2 : ∀ z ∈ ms, PyData.strOk z = true) (h : Q (.bl (!decide (ns = ms))) H) : gNe K (.ref p) (.ref q) H Q := by
  refine .inr (.inl ⟨_, _, .lst (.inl (.inl h1)) (dps_strs ns), .lst (.inl (.inl h2)) (dps_strs ms), shaped_strs ns k1, shaped_strs ms k2, ?_⟩)
  rw [PyData.eqv, eqv_strs]; exact h
end
theorem Ky.ok {n : Nat} {z : Str} (h : Ky n z) : PyData.strOk z = true := by
  unfold PyData.strOk
  rw [← Array.all_toList, List.all_eq_true]
  exact fun c hc => decide_eq_true (Nat.lt_of_le_of_lt (h.2 c hc).2 (by decide))
/-- made by a call: known from now on -/
theorem Pu.knew {B0 H0 B H H' : Hp} {p : Addr} {o : HO} (S : Pu B0 H0 B H) (s : Same H H') (hp : H p = none) (h : H' p = some o) : Pu B0 H0 (upd B p o) H' := (S.pure s).know h (S.free0 hp) (S.free hp)
theorem Same.mut {B H : Hp} {p : Addr} {o : HO} (s : Same B H) (hp : B p = none) : Same B (upd H p o) := fun q u e => by
  have : q ≠ p := fun z => by rw [z, hp] at e; cases e
  rw [upd_ne this]; exact s q u e
end G

namespace G
open PySem PySem.Spec PyProof.Rows L2 TL RZ

/-! ### two keys: how far alike, which is less -/
def lcp : List Nat → List Nat → Nat
  | x :: xs, y :: ys => if x = y then lcp xs ys + 1 else 0
  | _, _ => 0
theorem lcp_le : ∀ xs ys : List Nat, lcp xs ys ≤ xs.length ∧ lcp xs ys ≤ ys.length
  | [], _ => ⟨Nat.zero_le _, Nat.zero_le _⟩
  | _ :: _, [] => ⟨Nat.zero_le _, Nat.zero_le _⟩
  | x :: xs, y :: ys => by
    have := lcp_le xs ys
    unfold lcp
    split
    · simp only [List.length_cons]; omega
    · simp
/-- ahead of the end the signs are alike, there they are not, or one ends -/
theorem lcp_at : ∀ (xs ys : List Nat) (i : Nat), i < lcp xs ys → ∃ c, xs[i]? = some c ∧ ys[i]? = some c
  | [], _, _, h => absurd h (Nat.not_lt_zero _)
  | _ :: _, [], _, h => absurd h (Nat.not_lt_zero _)
  | x :: xs, y :: ys, i, h => by
    unfold lcp at h
    split at h
    · rename_i e
      cases i with
      | zero => exact ⟨x, rfl, by rw [e]; rfl⟩
      | succ i =>
        obtain ⟨c, h1, h2⟩ := lcp_at xs ys i (by omega)
        exact ⟨c, by simpa using h1, by simpa using h2⟩
    · exact absurd h (Nat.not_lt_zero _)
theorem lcp_end : ∀ (xs ys : List Nat) (c d : Nat), xs[lcp xs ys]? = some c → ys[lcp xs ys]? = some d → c ≠ d
  | [], _, _, _, h, _ => by simp [lcp] at h
  | _ :: _, [], _, _, _, h => by simp [lcp] at h
  | x :: xs, y :: ys, c, d, h1, h2 => by
    unfold lcp at h1 h2
    split at h1
    · rename_i e
      rw [if_pos e] at h2
      exact lcp_end xs ys c d (by simpa using h1) (by simpa using h2)
    · rename_i e
      rw [if_neg e] at h2
      have a1 : x = c := by simpa using h1
      have a2 : y = d := by simpa using h2
      rw [← a1, ← a2]; exact e
/-- how many signs two keys are alike -/
def lc (x y : Str) : Nat := lcp (tl x) (tl y)
def cmpL : List Nat → List Nat → Int
  | [], [] => 0
  | [], _ :: _ => -1
  | _ :: _, [] => 1
  | x :: xs, y :: ys => if x = y then cmpL xs ys else if x < y then -1 else 1
theorem cmpL_at : ∀ (xs ys : List Nat) (c d : Nat), xs[lcp xs ys]? = some c → ys[lcp xs ys]? = some d → cmpL xs ys = if c < d then -1 else 1
  | [], _, _, _, h, _ => by simp [lcp] at h
  | _ :: _, [], _, _, _, h => by simp [lcp] at h
  | x :: xs, y :: ys, c, d, h1, h2 => by
    unfold lcp at h1 h2
    unfold cmpL
    split at h1
    · rename_i e
      rw [if_pos e] at h2
      rw [if_pos e]
      exact cmpL_at xs ys c d (by simpa using h1) (by simpa using h2)
    · rename_i e
      rw [if_neg e] at h2
      rw [if_neg e]
      have a1 : x = c := by simpa using h1
      have a2 : y = d := by simpa using h2
      rw [← a1, ← a2]
theorem cmpL_end : ∀ (xs ys : List Nat), (lcp xs ys = xs.length → lcp xs ys = ys.length → cmpL xs ys = 0) ∧ (lcp xs ys = xs.length → lcp xs ys ≠ ys.length → cmpL xs ys = -1) ∧ (lcp xs ys ≠ xs.length → lcp xs ys = ys.length → cmpL xs ys = 1)
  | [], [] => by simp [lcp, cmpL]
  | [], _ :: _ => by simp [lcp, cmpL]
  | _ :: _, [] => by simp [lcp, cmpL]
  | x :: xs, y :: ys => by
    have ih := cmpL_end xs ys
    unfold lcp cmpL
    by_cases h : x = y
    · rw [if_pos h, if_pos h]
      simp only [List.length_cons, Nat.add_right_cancel_iff, ne_eq]
      exact ih
    · rw [if_neg h, if_neg h]
      simp only [List.length_cons]
      refine ⟨fun z => by omega, fun z => by omega, fun _ z => by omega⟩
/-- -1, 0, 1: which key is less -/
def lk (x y : Str) : Int := cmpL (tl x) (tl y)
theorem lcp_comm : ∀ xs ys : List Nat, lcp xs ys = lcp ys xs
  | [], [] => rfl
  | [], _ :: _ => rfl
  | _ :: _, [] => rfl
  | x :: xs, y :: ys => by
    unfold lcp
    by_cases h : x = y
    · rw [if_pos h, if_pos h.symm, lcp_comm xs ys]
    · rw [if_neg h, if_neg (fun z => h z.symm)]
theorem lc_comm (x y : Str) : lc x y = lc y x := lcp_comm _ _
theorem cmpL_anti : ∀ xs ys : List Nat, cmpL ys xs = -cmpL xs ys
  | [], [] => rfl
  | [], _ :: _ => rfl
  | _ :: _, [] => rfl
  | x :: xs, y :: ys => by
    unfold cmpL
    by_cases h : x = y
    · rw [if_pos h, if_pos h.symm]; exact cmpL_anti xs ys
    · rw [if_neg h, if_neg (fun z => h z.symm)]
      by_cases h2 : x < y
      · rw [if_pos h2, if_neg (by omega)]; rfl
      · rw [if_neg h2, if_pos (by omega)]
theorem cmpL_eq : ∀ xs ys : List Nat, cmpL xs ys = 0 ↔ xs = ys
  | [], [] => by simp [cmpL]
  | [], _ :: _ => by simp [cmpL]
  | _ :: _, [] => by simp [cmpL]
  | x :: xs, y :: ys => by
    unfold cmpL
    by_cases h : x = y
    · rw [if_pos h, cmpL_eq xs ys, h]; simp
    · rw [if_neg h]
      refine ⟨fun z => ?_, fun z => absurd (List.cons.inj z).1 h⟩
      split at z <;> omega
theorem cmpL_val : ∀ xs ys : List Nat, cmpL xs ys = -1 ∨ cmpL xs ys = 0 ∨ cmpL xs ys = 1
  | [], [] => by simp [cmpL]
  | [], _ :: _ => by simp [cmpL]
  | _ :: _, [] => by simp [cmpL]
  | x :: xs, y :: ys => by
    unfold cmpL
    by_cases h : x = y
    · rw [if_pos h]; exact cmpL_val xs ys
    · rw [if_neg h]; split <;> simp
theorem cmpL_trans : ∀ xs ys zs : List Nat, cmpL xs ys ≤ 0 → cmpL ys zs ≤ 0 → cmpL xs zs ≤ 0
  | [], _, [] => fun _ _ => by simp [cmpL]
  | [], _, _ :: _ => fun _ _ => by simp [cmpL]
  | _ :: _, [], _ => fun h _ => by simp [cmpL] at h
  | _ :: _, _ :: _, [] => fun _ h => by simp [cmpL] at h
  | x :: xs, y :: ys, z :: zs => fun h1 h2 => by
    unfold cmpL at h1 h2 ⊢
    by_cases a : x = y
    · by_cases b : y = z
      · rw [if_pos a] at h1; rw [if_pos b] at h2; rw [if_pos (a.trans b)]
        exact cmpL_trans xs ys zs h1 h2
      · rw [if_neg b] at h2; rw [if_neg (fun c => b (a.symm.trans c)), a]; exact h2
    · rw [if_neg a] at h1
      have hxy : x < y := by
        refine Decidable.byContradiction fun c => ?_
        rw [if_neg c] at h1; omega
      by_cases b : y = z
      · rw [if_neg (by omega), if_pos (by omega)]; decide
      · rw [if_neg b] at h2
        have hyz : y < z := by
          refine Decidable.byContradiction fun c => ?_
          rw [if_neg c] at h2; omega
        rw [if_neg (by omega), if_pos (by omega)]; decide
theorem cmpL_pre : ∀ (xs : List Nat) (c : Nat), cmpL xs (xs ++ [c]) = -1
  | [], _ => rfl
  | x :: xs, c => by
    show (if x = x then cmpL xs (xs ++ [c]) else _) = -1
    rw [if_pos rfl]; exact cmpL_pre xs c
theorem cmpL_lt : ∀ xs ys : List Nat, xs < ys ↔ cmpL xs ys = -1
  | [], [] => by simp [cmpL]
  | [], _ :: _ => by simp [cmpL]
  | _ :: _, [] => by simp [cmpL]
  | x :: xs, y :: ys => by
    unfold cmpL
    rw [List.cons_lt_cons_iff]
    by_cases h : x = y
    · rw [if_pos h, ← cmpL_lt xs ys]
      constructor
      · rintro (z | ⟨_, z⟩)
        · omega
        · exact z
      · exact fun z => .inr ⟨h, z⟩
    · rw [if_neg h]
      by_cases h2 : x < y
      · rw [if_pos h2]; exact ⟨fun _ => rfl, fun _ => .inl h2⟩
      · rw [if_neg h2]
        constructor
        · rintro (z | ⟨z, _⟩)
          · exact absurd z h2
          · exact absurd z h
        · exact fun z => absurd z (by decide)
theorem lk_anti (x y : Str) : lk y x = -lk x y := cmpL_anti _ _
theorem lk_val (x y : Str) : lk x y = -1 ∨ lk x y = 0 ∨ lk x y = 1 := cmpL_val _ _
theorem lk_self (x : Str) : lk x x = 0 := (cmpL_eq _ _).mpr rfl
theorem lk_eq {x y : Str} : lk x y = 0 ↔ x = y := (cmpL_eq _ _).trans ⟨fun e => ext_tl e, fun e => by rw [e]⟩
theorem lk_trans {x y z : Str} (h1 : lk x y ≤ 0) (h2 : lk y z ≤ 0) : lk x z ≤ 0 := cmpL_trans _ _ _ h1 h2
theorem lk_lt {x y : Str} : (x.cps.toList < y.cps.toList) ↔ lk x y = -1 := cmpL_lt _ _
/-- keys in order -/
def Row (ys : List Str) : Prop := ys.Pairwise fun x y => lk x y ≤ 0
theorem rising_row : ∀ {ys : List Str} {x : Str}, risingS x ys = true → Row (x :: ys)
  | [], x, _ => List.pairwise_singleton _ _
  | y :: ys, x, h => by
    unfold risingS at h
    rw [Bool.and_eq_true, Bool.not_eq_true', ltCps_eq, decide_eq_false_iff_not] at h
    have ih := rising_row h.2
    have h1 : lk x y ≤ 0 := by
      have a := lk_anti x y
      have c := lk_val x y
      have d := mt lk_lt.mpr h.1
      omega
    refine List.pairwise_cons.mpr ⟨fun z hz => ?_, ih⟩
    rcases List.mem_cons.mp hz with rfl | hz
    · exact h1
    · exact lk_trans h1 ((List.pairwise_cons.mp ih).1 z hz)
theorem sorted_row {ys : List Str} (h : sortedS ys = true) : Row ys := by
  cases ys with
  | nil => exact List.Pairwise.nil
  | cons y ys => exact rising_row h
theorem lc_self (x : Str) : lc x x = (tl x).length := by
  have : ∀ l : List Nat, lcp l l = l.length := fun l => by
    induction l with
    | nil => rfl
    | cons a l ih => unfold lcp; rw [if_pos rfl, ih]; rfl
  exact this _
/-- of three keys in order the outer ones are as far alike as the least of both steps -/
theorem lcp_mid : ∀ xs ys zs : List Nat, cmpL xs ys ≤ 0 → cmpL ys zs ≤ 0 → lcp xs zs = min (lcp xs ys) (lcp ys zs)
  | [], _, _ => fun _ _ => by simp [lcp]
  | _ :: _, [], _ => fun h _ => by simp [cmpL] at h
  | _ :: _, _ :: _, [] => fun _ h => by simp [cmpL] at h
  | x :: xs, y :: ys, z :: zs => fun h1 h2 => by
    unfold cmpL at h1 h2
    unfold lcp
    by_cases a : x = y
    · by_cases b : y = z
      · rw [if_pos a] at h1; rw [if_pos b] at h2
        rw [if_pos a, if_pos b, if_pos (a.trans b), lcp_mid xs ys zs h1 h2]; omega
      · rw [if_neg b] at h2
        rw [if_neg (fun c => b (a.symm.trans c)), if_neg b]; omega
    · rw [if_neg a] at h1
      have hxy : x < y := by
        refine Decidable.byContradiction fun c => ?_
        rw [if_neg c] at h1; omega
      have hyz : y ≤ z := by
        by_cases b : y = z
        · omega
        · rw [if_neg b] at h2
          refine Decidable.byContradiction fun c => ?_
          rw [if_neg (by omega)] at h2; omega
      rw [if_neg a, if_neg (by omega)]; omega
theorem lc_mid {x y z : Str} (h1 : lk x y ≤ 0) (h2 : lk y z ≤ 0) : lc x z = min (lc x y) (lc y z) := lcp_mid _ _ _ h1 h2
section
variable {K : PySem.W.Frag} {H : Hp} {Q : VK}
theorem sorted_strs {p : Addr} {xs : List Str} (h : H p = some (.lst (xs.map V.str))) (hl : xs.length < 64) (q : ∀ ys : List Str, ys.Perm xs → Row ys → AtNew Q (.lst (ys.map V.str)) H) : gSorted K [.ref p] H Q :=
  .inr (.inl ⟨p, xs, rfl, .inl (.inl h), hl, fun ys p hy hs hp => q ys hy (sorted_row hs) p hp⟩)
theorem sorted_ints {p : Addr} {xs : List Int} (h : H p = some (.lst (xs.map V.int))) (q : ∀ ys : List Int, ys.Perm xs → ys.Pairwise (· ≤ ·) → AtNew Q (.lst (ys.map V.int)) H) : gSorted K [.ref p] H Q :=
  .inl ⟨p, xs, rfl, .inl (.inl h), fun ys p hy hs hp => q ys hy hs p hp⟩
theorem min_ints {p : Addr} {xs : List Int} (h : H p = some (.lst (xs.map V.int))) (hl : 0 < xs.length) (q : ∀ m, m ∈ xs → (∀ y ∈ xs, m ≤ y) → Q (.int m) H) : gMin K [.ref p] H Q := .inr (.inl ⟨p, xs, rfl, .inl (.inl h), hl, q⟩)
theorem max_ints {p : Addr} {xs : List Int} (h : H p = some (.lst (xs.map V.int))) (hl : 0 < xs.length) (q : ∀ m, m ∈ xs → (∀ y ∈ xs, y ≤ m) → Q (.int m) H) : gMax K [.ref p] H Q := .inr ⟨p, xs, rfl, .inl (.inl h), hl, q⟩
theorem sum_ints {p : Addr} {xs : List Int} (h : H p = some (.lst (xs.map V.int))) (q : Q (.int xs.sum) H) : gSum K [.ref p] H Q := ⟨p, xs, rfl, .inl (.inl h), q⟩
theorem m_rep {p : Addr} {k : Int} {xs : List V} (h : H p = some (.lst xs)) (h0 : -1048576 ≤ k) (h1 : k ≤ 1048576) (hl : xs.length * k.toNat ≤ 1048576) (q : AtNew Q (.lst (List.replicate k.toNat xs).flatten) H) : gMul (.ref p) (.int k) H Q :=
  .inr (.inr ⟨p, k, xs, rfl, rfl, h, by omega, by omega, szl' hl, q⟩)
end
/-- each turn gives the list's own -/
theorem Each.eq {L : List V} {n : Nat} {B : Hp} {acc : List V} (h : Each (fun j _ v => L[j]? = some v) n B acc) (hn : n = L.length) : acc = L := by
  refine List.ext_getElem? fun j => ?_
  by_cases hj : j < acc.length
  · rw [List.getElem?_eq_getElem hj]; exact (h.2 j _ (List.getElem?_eq_getElem hj)).symm
  · have := h.1
    rw [List.getElem?_eq_none (by omega), List.getElem?_eq_none (by omega)]
theorem map_at {α : Type} {f : α → V} {xs : List α} {i : Nat} {x : V} (h : (xs.map f)[i]? = some x) : ∃ a, xs[i]? = some a ∧ x = f a := by
  rw [List.getElem?_map] at h
  cases e : xs[i]? with
  | none => rw [e] at h; cases h
  | some a => rw [e] at h; exact ⟨a, rfl, (Option.some.inj h).symm⟩
end G

namespace G
open PySem PySem.Spec PyProof.Rows L2 TL RZ

/-! ### list.insert -/
section
variable {X : Cx}
def rInsert : V → List V → Hp → VK → Prop := fun x vs H Q => ∃ (l : Addr) (xs : List V) (k : Nat) (y : V), x = .ref l ∧ vs = [.int k, y] ∧ H l = some (.lst xs) ∧ k ≤ xs.length ∧ xs.length < 1048576 ∧ Q .non (upd H l (.lst (xs.take k ++ y :: xs.drop k)))
theorem ins_meets (l : Addr) (its : Array Value) (n : Nat) (k : Int) (t : Tok) (w : Value) (h1 : Builtin.List.listFitsIndex k = true) (h2 : its.size ≤ sizeLine) (f : Array Value → Array Value)
    (hf : f = fun xs => (xs.extract 0 (if k < 0 then (k + (xs.size : Int)).toNat else min k.toNat xs.size)).push w ++ xs.extract (if k < 0 then (k + (xs.size : Int)).toNat else min k.toNat xs.size)) :
    Meets (Builtin.«list.insert» ⟨[.ref l, .int k t, w], []⟩) (fun _ R s => s.heap.get? l = some { cls := .type "list", dict := none, data := .seq its n, slots := #[] } ∧ R (.ok (.ret Value.none)) { s with heap := s.heap.update l (Obj.mapSeq f), toks := s.toks }) := by
  subst hf
  exact PySem.AutoSeq1.list_insert_list_int_val_1 l its n k t w (by rw [h1]; exact fun z => nomatch z) h2
theorem mt_insert : MtM X "list.insert" rInsert := by
  intro pins s σ H x vs v us Q I rx rv h
  obtain ⟨l, xs, k, y, rfl, rfl, hH, hk, hz, q⟩ := h
  cases rx
  obtain ⟨u, w, rfl, ru, rw'⟩ := rv.two
  obtain ⟨t, rfl⟩ := ru
  obtain ⟨z, its, n, r, hl, e⟩ := I.lstM hH
  obtain ⟨ki, hki⟩ : ∃ ki : Int, ki = k := ⟨_, rfl⟩
  rw [← hki]
  have hf : Builtin.List.listFitsIndex ki = true := fitsIndex_both (by omega) (by omega)
  have hsz : its.length ≤ sizeLine := Nat.le_of_lt (szl'' (by omega))
  refine call_meets PySem.F.slot_list_insert ⟨_, e, rfl⟩ PySem.F.entry_list_insert (PySem.F.args_list_insert_3 _ _ _) (ins_meets l its.toArray n ki t w hf (by rw [List.size_toArray]; exact hsz) _ rfl) ⟨e, ?_⟩
  refine ⟨.non, _, I.lset (its' := its.take k ++ w :: its.drop k) hH e ?_ ((r.take k).append (.cons rw' (r.drop k))) ?_, rfl, q⟩
  · have hm : min ki.toNat its.toArray.size = k := by rw [List.size_toArray]; omega
    rw [if_neg (by omega), hm, PySem.W.kl_ins_eq]
  · rw [List.length_append, List.length_cons, List.length_take, List.length_drop]
    exact szl' (by omega)
end
section
variable {K : PySem.W.Frag} {H : Hp} {Q : VK}
theorem ins_lst {l : Addr} {xs : List V} {k : Nat} {y : V} (h : H l = some (.lst xs)) (hk : k ≤ xs.length) (hl : xs.length < 1048576) (q : Q .non (upd H l (.lst (xs.take k ++ y :: xs.drop k)))) : rInsert (.ref l) [.int k, y] H Q := ⟨l, xs, k, y, rfl, rfl, h, hk, hl, q⟩
theorem ixN_n {n j : Nat} (hj : j < n) : ixN n (j : Int) = some j := by
  unfold ixN
  rw [if_pos (by omega), if_pos (by omega)]
  simp
/-- an item by a drawn place is put otherwise -/
theorem setL_nat {p : Addr} {xs : List V} {j : Nat} {v : V} {R : Hp → Prop} (h1 : H p = some (.lst xs)) (h2 : j < xs.length) (h : R (upd H p (.lst (xs.set j v)))) : gSet (.ref p) (.int (j : Int)) v H R := setL_lst h1 (ixN_n h2) h
theorem ix_nat {p : Addr} {xs : List V} {j : Nat} {v : V} (h1 : H p = some (.lst xs)) (h2 : xs[j]? = some v) (h : Q v H) : gIx K (.ref p) (.int (j : Int)) H Q := ix_lst h1 (atI_nat h2) h
theorem ix_str {p : Addr} {ys : List Str} {j : Nat} (h1 : H p = some (.lst (ys.map V.str))) (h2 : j < ys.length) (h : Q (.str (ys[j]'h2)) H) : gIx K (.ref p) (.int (j : Int)) H Q := ix_lst h1 (atI_nat (by rw [List.getElem?_map, List.getElem?_eq_getElem h2]; rfl)) h
theorem ix_i {p : Addr} {ys : List Int} {j : Nat} (h1 : H p = some (.lst (ys.map V.int))) (h2 : j < ys.length) (h : Q (.int (ys[j]'h2)) H) : gIx K (.ref p) (.int (j : Int)) H Q := ix_lst h1 (atI_nat (by rw [List.getElem?_map, List.getElem?_eq_getElem h2]; rfl)) h
end
theorem nat_of {d : Int} (h : 0 ≤ d) : ∃ j : Nat, d = (j : Int) := ⟨d.toNat, by omega⟩
/-! ### letters -/
theorem mem_letters (c : Nat) : c ∈ (Str.ofString "abcdefghijklmnopqrstuvwxyz").cps.toList ↔ 97 ≤ c ∧ c ≤ 122 := by
  constructor
  · exact (show ∀ c ∈ (Str.ofString "abcdefghijklmnopqrstuvwxyz").cps.toList, 97 ≤ c ∧ c ≤ 122 by decide +kernel) c
  · rintro ⟨h1, h2⟩
    have : ∀ d, d < 26 → 97 + d ∈ (Str.ofString "abcdefghijklmnopqrstuvwxyz").cps.toList := by decide +kernel
    have := this (c - 97) (by omega)
    rwa [Nat.add_sub_cancel' h1] at this
instance {l : List Nat} : Decidable (LtL l) := inferInstanceAs (Decidable (∀ c ∈ l, 97 ≤ c ∧ c ≤ 122))
theorem all_letters (l : List Nat) : (l.map fun c => decide (c ∈ (Str.ofString "abcdefghijklmnopqrstuvwxyz").cps.toList)).all id = decide (LtL l) := by
  rw [Bool.eq_iff_iff, List.all_eq_true, decide_eq_true_eq]
  constructor
  · intro h c hc
    exact (mem_letters c).mp (of_decide_eq_true (h _ (List.mem_map.mpr ⟨c, hc, rfl⟩)))
  · intro h b hb
    obtain ⟨c, hc, rfl⟩ := List.mem_map.mp hb
    exact decide_eq_true ((mem_letters c).mpr (h c hc))
section
variable {K : PySem.W.Frag} {H : Hp} {Q : VK}
theorem in_chr {c : Nat} {z : Str} (h : Q (.bl (decide (c ∈ z.cps.toList))) H) : gIn K (.str ⟨#[c]⟩) (.str z) H Q := .inr (.inl ⟨c, z, rfl, rfl, h⟩)
theorem all_lst {p : Addr} {bs : List Bool} (h : H p = some (.lst (bs.map V.bl))) (q : Q (.bl (bs.all id)) H) : gAll K [.ref p] H Q := ⟨p, bs, rfl, .inl (.inl h), q⟩
theorem any_lst {p : Addr} {bs : List Bool} (h : H p = some (.lst (bs.map V.bl))) (q : Q (.bl (bs.any id)) H) : gAny K [.ref p] H Q := ⟨p, bs, rfl, .inl (.inl h), q⟩
theorem at_neg1 {α : Type} {xs : List α} {v : α} (h2 : xs[xs.length - 1]? = some v) : atI xs (-1) = some v := by
  have hl : 0 < xs.length := by
    refine Decidable.byContradiction fun z => ?_
    rw [List.getElem?_eq_none (by omega)] at h2; cases h2
  unfold atI ixN
  rw [if_neg (by decide), if_pos (by omega)]
  show xs[((-1 : Int) + xs.length).toNat]? = some v
  rw [show ((-1 : Int) + xs.length).toNat = xs.length - 1 by omega]; exact h2
end
/-- what may be asked if it is a key -/
def KeyV (H : Hp) (v : V) (b : Bool) : Prop := (∃ z, v = .str z ∧ z.length ≤ 100000 ∧ b = decide (LtL (tl z))) ∨
  (b = false ∧ (v = .non ∨ (∃ k, v = .bl k) ∨ (∃ i, v = .int i) ∨ (∃ p xs, v = .ref p ∧ H p = some (.lst xs)) ∨ ∃ p xs, v = .ref p ∧ H p = some (.tup xs)))
theorem KeyV.mono {H H' : Hp} {v : V} {b : Bool} (s : Same H H') : KeyV H v b → KeyV H' v b
  | .inl h => .inl h
  | .inr ⟨h, .inl e⟩ => .inr ⟨h, .inl e⟩
  | .inr ⟨h, .inr (.inl e)⟩ => .inr ⟨h, .inr (.inl e)⟩
  | .inr ⟨h, .inr (.inr (.inl e))⟩ => .inr ⟨h, .inr (.inr (.inl e))⟩
  | .inr ⟨h, .inr (.inr (.inr (.inl ⟨p, xs, e, hp⟩)))⟩ => .inr ⟨h, .inr (.inr (.inr (.inl ⟨p, xs, e, s _ _ hp⟩)))⟩
  | .inr ⟨h, .inr (.inr (.inr (.inr ⟨p, xs, e, hp⟩)))⟩ => .inr ⟨h, .inr (.inr (.inr (.inr ⟨p, xs, e, s _ _ hp⟩)))⟩
/-- the first place whose key is less than the one ahead -/
def Brk (ys : List Str) (o : Option Nat) : Prop := match o with
  | none => ∀ (i : Nat) a b, ys[i]? = some a → ys[i + 1]? = some b → ¬ lk b a < 0
  | some n => 1 ≤ n ∧ n < ys.length ∧ (∀ a b, ys[n - 1]? = some a → ys[n]? = some b → lk b a < 0) ∧ ∀ (i : Nat) a b, i + 1 < n → ys[i]? = some a → ys[i + 1]? = some b → ¬ lk b a < 0
def optV : Option Nat → V
  | none => .non
  | some n => .int n
theorem lk_nlt {a b : Str} : ¬ lk b a < 0 ↔ lk a b ≤ 0 := by
  have := lk_anti a b
  omega
theorem row_of : ∀ {ys : List Str}, (∀ (i : Nat) a b, ys[i]? = some a → ys[i + 1]? = some b → ¬ lk b a < 0) → Row ys
  | [], _ => List.Pairwise.nil
  | [_], _ => List.pairwise_singleton _ _
  | x :: y :: r, h => by
    have ih := row_of (ys := y :: r) fun i a b h1 h2 => h (i + 1) a b (by simpa using h1) (by simpa using h2)
    have h0 : lk x y ≤ 0 := lk_nlt.mp (h 0 x y rfl rfl)
    refine List.pairwise_cons.mpr ⟨fun z hz => ?_, ih⟩
    rcases List.mem_cons.mp hz with rfl | hz
    · exact h0
    · exact lk_trans h0 ((List.pairwise_cons.mp ih).1 z hz)
theorem row_at {ys : List Str} (h : Row ys) {i j : Nat} {a b : Str} (hij : i < j) (ha : ys[i]? = some a) (hb : ys[j]? = some b) : lk a b ≤ 0 := by
  have hj : j < ys.length := by
    refine Decidable.byContradiction fun z => ?_
    rw [List.getElem?_eq_none (by omega)] at hb; cases hb
  have e1 : ys[i]'(by omega) = a := Option.some.inj ((List.getElem?_eq_getElem (by omega)).symm.trans ha)
  have e2 : ys[j]'hj = b := Option.some.inj ((List.getElem?_eq_getElem hj).symm.trans hb)
  have := List.pairwise_iff_getElem.mp h i j (by omega) hj hij
  rw [e1, e2] at this; exact this
theorem brk_none {ys : List Str} : Brk ys none ↔ Row ys := ⟨row_of, fun h i a b h1 h2 => lk_nlt.mpr (row_at h (Nat.lt_succ_self i) h1 h2)⟩
theorem Brk.uniq {ys : List Str} : ∀ {o o' : Option Nat}, Brk ys o → Brk ys o' → o = o'
  | none, none, _, _ => rfl
  | none, some n, h, ⟨h1, h2, h3, _⟩ => by
    have e1 : ys[n - 1]? = some (ys[n - 1]'(by omega)) := List.getElem?_eq_getElem _
    have e2 : ys[n]? = some (ys[n]'h2) := List.getElem?_eq_getElem _
    exact absurd (h3 _ _ e1 e2) (h (n - 1) _ _ e1 (by rw [Nat.sub_add_cancel h1]; exact e2))
  | some n, none, ⟨h1, h2, h3, _⟩, h => by
    have e1 : ys[n - 1]? = some (ys[n - 1]'(by omega)) := List.getElem?_eq_getElem _
    have e2 : ys[n]? = some (ys[n]'h2) := List.getElem?_eq_getElem _
    exact absurd (h3 _ _ e1 e2) (h (n - 1) _ _ e1 (by rw [Nat.sub_add_cancel h1]; exact e2))
  | some n, some m, ⟨h1, h2, h3, h4⟩, ⟨k1, k2, k3, k4⟩ => by
    have e1 : ys[n - 1]? = some (ys[n - 1]'(by omega)) := List.getElem?_eq_getElem _
    have e2 : ys[n]? = some (ys[n]'h2) := List.getElem?_eq_getElem _
    have f1 : ys[m - 1]? = some (ys[m - 1]'(by omega)) := List.getElem?_eq_getElem _
    have f2 : ys[m]? = some (ys[m]'k2) := List.getElem?_eq_getElem _
    rcases Nat.lt_trichotomy n m with h | h | h
    · exact absurd (h3 _ _ e1 e2) (k4 (n - 1) _ _ (by omega) e1 (by rw [Nat.sub_add_cancel h1]; exact e2))
    · rw [h]
    · exact absurd (k3 _ _ f1 f2) (h4 (m - 1) _ _ (by omega) f1 (by rw [Nat.sub_add_cancel k1]; exact f2))
theorem set_ok {n : Nat} {ys : List Str} {j : Nat} {z : Str} (h : ∀ y ∈ ys, Ky n y) (hz : Ky n z) : ∀ y ∈ ys.set j z, Ky n y := fun y hy => by
  rcases List.mem_or_eq_of_mem_set hy with hy | hy
  · exact h y hy
  · rw [hy]; exact hz
theorem app_ok {n : Nat} {ys zs : List Str} (h : ∀ y ∈ ys, Ky n y) (hz : ∀ y ∈ zs, Ky n y) : ∀ y ∈ ys ++ zs, Ky n y := fun y hy => by
  rcases List.mem_append.mp hy with hy | hy
  · exact h y hy
  · exact hz y hy
theorem ins_ok {n : Nat} {ys : List Str} {j : Nat} {z : Str} (h : ∀ y ∈ ys, Ky n y) (hz : Ky n z) : ∀ y ∈ ys.take j ++ z :: ys.drop j, Ky n y := fun y hy => by
  rcases List.mem_append.mp hy with hy | hy
  · exact h y (List.mem_of_mem_take hy)
  · rcases List.mem_cons.mp hy with rfl | hy
    · exact hz
    · exact h y (List.mem_of_mem_drop hy)
theorem kys_le {n m : Nat} {ys : List Str} (h : ∀ y ∈ ys, Ky n y) (hm : n ≤ m) : ∀ y ∈ ys, Ky m y := fun y hy => (h y hy).le hm
end G

namespace G
open PySem PySem.Spec PyProof.Rows L2 TL RZ

/-! ### data at a heap -/
mutual
inductive Dt (B : Hp) : V → PyData → Prop
  | non : Dt B .non .none
  | bl (b : Bool) : Dt B (.bl b) (.bool b)
  | int (i : Int) : Dt B (.int i) (.int i)
  | str (z : Str) : Dt B (.str z) (.str z)
  | lst {p : Addr} {xs : List V} {ds : List PyData} : B p = some (.lst xs) → Dts B xs ds → Dt B (.ref p) (.list ds)
  | tup {p : Addr} {xs : List V} {ds : List PyData} : B p = some (.tup xs) → Dts B xs ds → Dt B (.ref p) (.tuple ds)
inductive Dts (B : Hp) : List V → List PyData → Prop
  | nil : Dts B [] []
  | cons {v : V} {vs : List V} {d : PyData} {ds : List PyData} : Dt B v d → Dts B vs ds → Dts B (v :: vs) (d :: ds)
end
mutual
theorem Dt.mono {B B' : Hp} (s : Same B B') : ∀ {v : V} {d : PyData}, Dt B v d → Dt B' v d
  | _, _, .non => .non
  | _, _, .bl b => .bl b
  | _, _, .int i => .int i
  | _, _, .str z => .str z
  | _, _, .lst h t => .lst (s _ _ h) (t.mono s)
  | _, _, .tup h t => .tup (s _ _ h) (t.mono s)
theorem Dts.mono {B B' : Hp} (s : Same B B') : ∀ {vs : List V} {ds : List PyData}, Dts B vs ds → Dts B' vs ds
  | _, _, .nil => .nil
  | _, _, .cons h t => .cons (h.mono s) (t.mono s)
end
mutual
theorem Dt.dp {K : PySem.W.Frag} {B H : Hp} (s : Same B H) : ∀ {v : V} {d : PyData}, Dt B v d → Dp K H v d
  | _, _, .non => .non
  | _, _, .bl b => .bl b
  | _, _, .int i => .int i
  | _, _, .str z => .str z
  | _, _, .lst h t => .lst (.inl (.inl (s _ _ h))) (t.dp s)
  | _, _, .tup h t => .tup (.inl (.inl (s _ _ h))) (t.dp s)
theorem Dts.dp {K : PySem.W.Frag} {B H : Hp} (s : Same B H) : ∀ {vs : List V} {ds : List PyData}, Dts B vs ds → DpAll K H vs ds
  | _, _, .nil => .nil
  | _, _, .cons h t => .cons (h.dp s) (t.dp s)
end
section
variable {B : Hp}
theorem Dts.len : ∀ {vs : List V} {ds : List PyData}, Dts B vs ds → vs.length = ds.length
  | _, _, .nil => rfl
  | _, _, .cons _ t => by rw [List.length_cons, List.length_cons, t.len]
theorem Dts.at : ∀ {vs : List V} {ds : List PyData} {i : Nat} {v : V}, Dts B vs ds → vs[i]? = some v → ∃ d, ds[i]? = some d ∧ Dt B v d
  | _, _, _, _, .nil, h => by simp at h
  | _, _, 0, _, .cons h _, e => by
    have e1 := Option.some.inj e
    rw [← e1]; exact ⟨_, rfl, h⟩
  | _, _, i + 1, _, .cons _ t, e => by
    obtain ⟨d, h1, h2⟩ := t.at (i := i) (by simpa using e)
    exact ⟨d, by simpa using h1, h2⟩
theorem Dts.at' : ∀ {vs : List V} {ds : List PyData} {i : Nat} {d : PyData}, Dts B vs ds → ds[i]? = some d → ∃ v, vs[i]? = some v ∧ Dt B v d
  | _, _, _, _, .nil, h => by simp at h
  | _, _, 0, _, .cons h _, e => by
    have e1 := Option.some.inj e
    rw [← e1]; exact ⟨_, rfl, h⟩
  | _, _, i + 1, _, .cons _ t, e => by
    obtain ⟨d, h1, h2⟩ := t.at' (i := i) (by simpa using e)
    exact ⟨d, by simpa using h1, h2⟩
theorem Dts.app : ∀ {vs ws : List V} {ds es : List PyData}, Dts B vs ds → Dts B ws es → Dts B (vs ++ ws) (ds ++ es)
  | _, _, _, _, .nil, s => s
  | _, _, _, _, .cons h t, s => .cons h (t.app s)
theorem Dts.snoc {vs : List V} {ds : List PyData} {v : V} {d : PyData} (h : Dts B vs ds) (h' : Dt B v d) : Dts B (vs ++ [v]) (ds ++ [d]) := h.app (.cons h' .nil)
theorem Dts.take : ∀ {vs : List V} {ds : List PyData} (n : Nat), Dts B vs ds → Dts B (vs.take n) (ds.take n)
  | _, _, 0, _ => .nil
  | _, _, _ + 1, .nil => .nil
  | _, _, n + 1, .cons h t => .cons h (t.take n)
theorem Dts.drop : ∀ {vs : List V} {ds : List PyData} (n : Nat), Dts B vs ds → Dts B (vs.drop n) (ds.drop n)
  | _, _, 0, h => h
  | _, _, _ + 1, .nil => .nil
  | _, _, n + 1, .cons _ t => t.drop n
theorem Dts.rev : ∀ {vs : List V} {ds : List PyData}, Dts B vs ds → Dts B vs.reverse ds.reverse
  | _, _, .nil => .nil
  | _, _, .cons h t => by rw [List.reverse_cons, List.reverse_cons]; exact t.rev.snoc h
theorem Dts.map {α : Type} {f : α → V} {g : α → PyData} : ∀ {l : List α}, (∀ a ∈ l, Dt B (f a) (g a)) → Dts B (l.map f) (l.map g)
  | [], _ => .nil
  | a :: l, h => .cons (h a List.mem_cons_self) (Dts.map fun b hb => h b (List.mem_cons_of_mem _ hb))
theorem Dts.ints (ns : List Int) : Dts B (ns.map V.int) (ns.map PyData.int) := .map fun n _ => .int n
theorem Dts.strs (ns : List Str) : Dts B (ns.map V.str) (ns.map PyData.str) := .map fun n _ => .str n
theorem Dts.ix {vs : List V} {ds : List PyData} (hl : vs.length = ds.length) (h : ∀ (i : Nat) v d, vs[i]? = some v → ds[i]? = some d → Dt B v d) : Dts B vs ds := by
  induction vs generalizing ds with
  | nil => cases ds with
    | nil => exact .nil
    | cons _ _ => simp at hl
  | cons v vs ih => cases ds with
    | nil => simp at hl
    | cons d ds => exact .cons (h 0 v d rfl rfl) (ih (by simpa using hl) fun i a b h1 h2 => h (i + 1) a b (by simpa using h1) (by simpa using h2))
/-- what a list, a tuple holds -/
theorem Dt.list {v : V} {ds : List PyData} (h : Dt B v (.list ds)) : ∃ p xs, v = .ref p ∧ B p = some (.lst xs) ∧ Dts B xs ds := by
  cases h with
  | lst h t => exact ⟨_, _, rfl, h, t⟩
theorem Dt.tuple {v : V} {ds : List PyData} (h : Dt B v (.tuple ds)) : ∃ p xs, v = .ref p ∧ B p = some (.tup xs) ∧ Dts B xs ds := by
  cases h with
  | tup h t => exact ⟨_, _, rfl, h, t⟩
theorem Dt.i {v : V} {n : Int} (h : Dt B v (.int n)) : v = .int n := by cases h; rfl
theorem Dt.s {v : V} {n : Str} (h : Dt B v (.str n)) : v = .str n := by cases h; rfl
theorem Dt.b {v : V} {n : Bool} (h : Dt B v (.bool n)) : v = .bl n := by cases h; rfl
theorem Dt.n {v : V} (h : Dt B v .none) : v = .non := by cases h; rfl
theorem Dts.nil' {vs : List V} (h : Dts B vs []) : vs = [] := by cases h; rfl
theorem Dts.cons' {vs : List V} {d : PyData} {ds : List PyData} (h : Dts B vs (d :: ds)) : ∃ v ws, vs = v :: ws ∧ Dt B v d ∧ Dts B ws ds := by
  cases h with
  | cons h t => exact ⟨_, _, rfl, h, t⟩
theorem Dts.int1 {ns : List Int} {vs : List V} (h : Dts B vs (ns.map PyData.int)) : vs = ns.map V.int := by
  induction ns generalizing vs with
  | nil => exact h.nil'
  | cons n ns ih =>
    obtain ⟨v, ws, rfl, h1, h2⟩ := h.cons'
    rw [h1.i, ih h2]; rfl
end
/-! ### not too deep, not too long, all texts such as may be -/
def Fits : Nat → PyData → Prop
  | _, .none => True
  | _, .bool _ => True
  | _, .int _ => True
  | _, .str z => PyData.strOk z = true
  | n + 1, .list ds => ds.length ≤ 100000 ∧ ∀ d ∈ ds, Fits n d
  | n + 1, .tuple ds => ds.length ≤ 100000 ∧ ∀ d ∈ ds, Fits n d
  | _, _ => False
theorem Fits.le : ∀ {n m : Nat} {d : PyData}, Fits n d → n ≤ m → Fits m d
  | _, _, .none, _, _ => by unfold Fits; trivial
  | _, _, .bool _, _, _ => by unfold Fits; trivial
  | _, _, .int _, _, _ => by unfold Fits; trivial
  | _, _, .str _, h, _ => by unfold Fits at h ⊢; exact h
  | n + 1, m + 1, .list ds, h, hm => by
    unfold Fits at h ⊢
    exact ⟨h.1, fun d hd => (h.2 d hd).le (by omega)⟩
  | n + 1, m + 1, .tuple ds, h, hm => by
    unfold Fits at h ⊢
    exact ⟨h.1, fun d hd => (h.2 d hd).le (by omega)⟩
  | 0, _, .list _, h, _ => by unfold Fits at h; exact h.elim
  | 0, _, .tuple _, h, _ => by unfold Fits at h; exact h.elim
  | _ + 1, 0, _, _, hm => absurd hm (by omega)
  | _, _, .dict _, h, _ => by unfold Fits at h; exact h.elim
theorem fits_list {n : Nat} {ds : List PyData} (h1 : ds.length ≤ 100000) (h2 : ∀ d ∈ ds, Fits n d) : Fits (n + 1) (.list ds) := by unfold Fits; exact ⟨h1, h2⟩
theorem fits_tup {n : Nat} {ds : List PyData} (h1 : ds.length ≤ 100000) (h2 : ∀ d ∈ ds, Fits n d) : Fits (n + 1) (.tuple ds) := by unfold Fits; exact ⟨h1, h2⟩
theorem fits_non {n : Nat} : Fits n .none := by unfold Fits; trivial
theorem fits_bool {n : Nat} {b : Bool} : Fits n (.bool b) := by unfold Fits; trivial
theorem fits_int {n : Nat} {i : Int} : Fits n (.int i) := by unfold Fits; trivial
theorem fits_str {n : Nat} {z : Str} (h : PyData.strOk z = true) : Fits n (.str z) := by unfold Fits; exact h
theorem fits_ints {n : Nat} {ns : List Int} (h : ns.length ≤ 100000) : Fits (n + 1) (.list (ns.map .int)) := fits_list (by rw [List.length_map]; exact h) fun d hd => by
  obtain ⟨i, _, rfl⟩ := List.mem_map.mp hd
  exact fits_int
theorem fits_map {α : Type} {n : Nat} {g : α → PyData} {l : List α} (h : l.length ≤ 100000) (h2 : ∀ a ∈ l, Fits n (g a)) : Fits (n + 1) (.list (l.map g)) := fits_list (by rw [List.length_map]; exact h) fun d hd => by
  obtain ⟨i, hi, rfl⟩ := List.mem_map.mp hd
  exact h2 i hi
theorem Fits.li {n : Nat} {ds : List PyData} (h : Fits n (.list ds)) : ∃ m, n = m + 1 ∧ ds.length ≤ 100000 ∧ ∀ d ∈ ds, Fits m d := by
  cases n with
  | zero => unfold Fits at h; exact h.elim
  | succ m => unfold Fits at h; exact ⟨m, rfl, h.1, h.2⟩
theorem Fits.tu {n : Nat} {ds : List PyData} (h : Fits n (.tuple ds)) : ∃ m, n = m + 1 ∧ ds.length ≤ 100000 ∧ ∀ d ∈ ds, Fits m d := by
  cases n with
  | zero => unfold Fits at h; exact h.elim
  | succ m => unfold Fits at h; exact ⟨m, rfl, h.1, h.2⟩
theorem depthAll_le {n : Nat} : ∀ {ds : List PyData}, (∀ d ∈ ds, d.depth ≤ n) → PyData.depthAll ds ≤ n
  | [], _ => Nat.zero_le _
  | d :: ds, h => by
    rw [PyData.depthAll]
    exact Nat.max_le.mpr ⟨h d List.mem_cons_self, depthAll_le fun e he => h e (List.mem_cons_of_mem _ he)⟩
theorem layAll {ds : List PyData} (h : ∀ d ∈ ds, d.canLay0 = true) : PyData.canLayAll0 ds = true := by
  induction ds with
  | nil => rfl
  | cons d ds ih => rw [PyData.canLayAll0, h d List.mem_cons_self, ih fun e he => h e (List.mem_cons_of_mem _ he)]; rfl
theorem eqvAll_refl {ds : List PyData} (h : ∀ d ∈ ds, PyData.eqv d d = true) : PyData.eqvAll ds ds = true := by
  induction ds with
  | nil => rfl
  | cons d ds ih => rw [PyData.eqvAll, h d List.mem_cons_self, ih fun e he => h e (List.mem_cons_of_mem _ he)]; rfl
theorem Fits.all : ∀ {n : Nat} {d : PyData}, Fits n d → d.depth ≤ n ∧ d.canLay0 = true ∧ PyData.eqv d d = true
  | _, .none, _ => ⟨Nat.zero_le _, rfl, rfl⟩
  | _, .bool b, _ => ⟨Nat.zero_le _, rfl, by show (b == b) = true; simp⟩
  | _, .int i, _ => ⟨Nat.zero_le _, rfl, by show (i == i) = true; simp⟩
  | _, .str z, h => ⟨Nat.zero_le _, by unfold Fits at h; exact h, by show (z == z) = true; simp⟩
  | 0, .list _, h => by unfold Fits at h; exact h.elim
  | 0, .tuple _, h => by unfold Fits at h; exact h.elim
  | n + 1, .list ds, h => by
    unfold Fits at h
    have ih := fun d hd => (h.2 d hd).all
    exact ⟨by rw [PyData.depth]; exact Nat.succ_le_succ (depthAll_le fun d hd => (ih d hd).1), layAll fun d hd => (ih d hd).2.1, by rw [PyData.eqv]; exact eqvAll_refl fun d hd => (ih d hd).2.2⟩
  | n + 1, .tuple ds, h => by
    unfold Fits at h
    have ih := fun d hd => (h.2 d hd).all
    exact ⟨by rw [PyData.depth]; exact Nat.succ_le_succ (depthAll_le fun d hd => (ih d hd).1), layAll fun d hd => (ih d hd).2.1, by rw [PyData.eqv]; exact eqvAll_refl fun d hd => (ih d hd).2.2⟩
  | _, .dict _, h => by unfold Fits at h; exact h.elim
theorem Fits.shaped {n : Nat} {d : PyData} (h : Fits n d) (hn : n ≤ 60) : SeqAt.shaped d = true := by
  unfold SeqAt.shaped
  rw [h.all.2.1, Bool.true_and]
  exact decide_eq_true (Nat.le_trans h.all.1 (by omega))
/-- the same data twice -/
theorem Dt.sm {B : Hp} : ∀ {n : Nat} {d : PyData} {x y : V}, Fits n d → Dt B x d → Dt B y d → Sm B n x y
  | _, .none, _, _, _, h1, h2 => by rw [h1.n, h2.n]; exact .non
  | _, .bool b, _, _, _, h1, h2 => by rw [h1.b, h2.b]; exact .bl b
  | _, .int i, _, _, _, h1, h2 => by rw [h1.i, h2.i]; exact .int i
  | _, .str z, _, _, _, h1, h2 => by rw [h1.s, h2.s]; exact .str z
  | 0, .list _, _, _, h, _, _ => by unfold Fits at h; exact h.elim
  | 0, .tuple _, _, _, h, _, _ => by unfold Fits at h; exact h.elim
  | n + 1, .list ds, _, _, h, h1, h2 => by
    unfold Fits at h
    obtain ⟨p, xs, rfl, e1, t1⟩ := h1.list
    obtain ⟨q, ys, rfl, e2, t2⟩ := h2.list
    refine .lst e1 e2 (by rw [t1.len]; exact h.1) (Sms.ix (by rw [t1.len, t2.len]) fun i x y hx hy => ?_)
    obtain ⟨d, hd, dx⟩ := t1.at hx
    obtain ⟨d', hd', dy⟩ := t2.at hy
    rw [hd] at hd'
    rw [← Option.some.inj hd'] at dy
    exact Dt.sm (h.2 d (List.mem_of_getElem? hd)) dx dy
  | n + 1, .tuple ds, _, _, h, h1, h2 => by
    unfold Fits at h
    obtain ⟨p, xs, rfl, e1, t1⟩ := h1.tuple
    obtain ⟨q, ys, rfl, e2, t2⟩ := h2.tuple
    refine .tup e1 e2 (by rw [t1.len]; exact h.1) (Sms.ix (by rw [t1.len, t2.len]) fun i x y hx hy => ?_)
    obtain ⟨d, hd, dx⟩ := t1.at hx
    obtain ⟨d', hd', dy⟩ := t2.at hy
    rw [hd] at hd'
    rw [← Option.some.inj hd'] at dy
    exact Dt.sm (h.2 d (List.mem_of_getElem? hd)) dx dy
  | _, .dict _, _, _, h, _, _ => by unfold Fits at h; exact h.elim
section
variable {K : PySem.W.Frag} {B H : Hp} {Q : VK} {x y : V} {d e : PyData} {n m : Nat}
theorem eq_data (s : Same B H) (h1 : Dt B x d) (h2 : Dt B y e) (f1 : Fits 60 d) (f2 : Fits 60 e) (q : Q (.bl (PyData.eqv d e)) H) : gEq K x y H Q := .inr (.inl ⟨d, e, h1.dp s, h2.dp s, f1.shaped (by decide), f2.shaped (by decide), q⟩)
theorem ne_data (s : Same B H) (h1 : Dt B x d) (h2 : Dt B y e) (f1 : Fits 60 d) (f2 : Fits 60 e) (q : Q (.bl (!PyData.eqv d e)) H) : gNe K x y H Q := .inr (.inl ⟨d, e, h1.dp s, h2.dp s, f1.shaped (by decide), f2.shaped (by decide), q⟩)
theorem eq_same (s : Same B H) (h1 : Dt B x d) (h2 : Dt B y d) (f : Fits 60 d) (q : Q (.bl true) H) : gEq K x y H Q := eq_data s h1 h2 f f (by rw [f.all.2.2]; exact q)
theorem ne_same (s : Same B H) (h1 : Dt B x d) (h2 : Dt B y d) (f : Fits 60 d) (q : Q (.bl false) H) : gNe K x y H Q := ne_data s h1 h2 f f (by rw [f.all.2.2]; exact q)
theorem ne_nil (s : Same B H) {ds : List PyData} (h1 : Dt B x (.list ds)) (h2 : Dt B y (.list [])) (f : Fits 60 (.list ds)) (q : Q (.bl (!decide (ds = []))) H) : gNe K x y H Q :=
  ne_data s h1 h2 f (fits_list (Nat.zero_le _) fun _ h => nomatch h) (by
    rw [PyData.eqv]
    cases ds with
    | nil => exact q
    | cons a l => rw [show PyData.eqvAll (a :: l) [] = decide (a :: l = []) from by rw [PyData.eqvAll]; exact (decide_eq_false (by simp)).symm]; exact q)
theorem eq_nil (s : Same B H) {ds : List PyData} (h1 : Dt B x (.list ds)) (h2 : Dt B y (.list [])) (f : Fits 60 (.list ds)) (q : Q (.bl (decide (ds = []))) H) : gEq K x y H Q :=
  eq_data s h1 h2 f (fits_list (Nat.zero_le _) fun _ h => nomatch h) (by
    rw [PyData.eqv]
    cases ds with
    | nil => exact q
    | cons a l => rw [show PyData.eqvAll (a :: l) [] = decide (a :: l = []) from by rw [PyData.eqvAll]; exact (decide_eq_false (by simp)).symm]; exact q)
/-- sorted(xs) of tuples that are enc of the typed list ts -/
theorem sorted_D {T : Type} {p : Addr} {xs : List V} {ts : List T} {enc : T → PyData} {le : T → T → Bool} (s : Same B H) (h : H p = some (.lst xs)) (hd : Dts B xs (ts.map enc)) (ha : ∀ a b, PySem.W.alike (enc a) (enc b) = true)
    (ht : ∀ a, ∃ x r, enc a = .tuple (x :: r)) (hdep : ∀ a, (enc a).depth ≤ 32) (hle : ∀ a b, (!PySem.W.dataLt (enc b) (enc a)) = le a b) (q : ∀ ys, Dts B ys ((ts.mergeSort le).map enc) → AtNew Q (.lst ys) H) : gSorted K [.ref p] H Q := by
  have hlen := hd.len
  have e1 : (xs.zip (ts.map enc)).map (·.1) = xs := List.map_fst_zip (by omega)
  have e2 : (xs.zip (ts.map enc)).map (·.2) = ts.map enc := List.map_snd_zip (by omega)
  have hp : ∀ p ∈ xs.zip (ts.map enc), Dt B p.1 p.2 := fun p hp => by
    obtain ⟨i, hi⟩ := List.getElem?_of_mem hp
    rw [List.getElem?_zip_eq_some] at hi
    obtain ⟨d, hd1, hd2⟩ := hd.at hi.1
    rw [hi.2] at hd1
    rw [Option.some.inj hd1]; exact hd2
  refine gSorted.d ⟨p, xs.zip (ts.map enc), rfl, by rw [e1]; exact .inl (.inl h), fun p m => (hp p m).dp s, ?_, ?_, fun p m => ?_, ?_⟩
  · rw [e2]; exact PySem.W.AllAlike.of ha
  · rw [e2]; exact PySem.W.Sortable.tuples ht
  · have : p.2 ∈ ts.map enc := by rw [← e2]; exact List.mem_map.mpr ⟨p, m, rfl⟩
    obtain ⟨a, _, ea⟩ := List.mem_map.mp this
    rw [← ea]; exact hdep a
  · have e3 : ((xs.zip (ts.map enc)).mergeSort (PySem.W.dataLe false (·.2))).map (·.2) = (ts.mergeSort le).map enc := by
      refine (List.map_mergeSort (r := PySem.W.dataLe false fun p : V × PyData => p.2) (s := PySem.W.dataLe false id) (f := fun p : V × PyData => p.2) (fun a _ b _ => rfl)).trans ?_
      rw [e2]
      exact (List.map_mergeSort (fun a _ b _ => (hle a b).symm)).symm
    refine q _ ?_
    rw [← e3]
    refine Dts.ix (by rw [List.length_map, List.length_map]) fun i v d h1 h2 => ?_
    rw [List.getElem?_map] at h1 h2
    cases ez : ((xs.zip (ts.map enc)).mergeSort (PySem.W.dataLe false (·.2)))[i]? with
    | none => rw [ez] at h1; cases h1
    | some z =>
      rw [ez] at h1 h2
      rw [← Option.some.inj h1, ← Option.some.inj h2]
      exact hp z ((List.mergeSort_perm _ _).mem_iff.mp (List.mem_of_getElem? ez))
theorem minD_le : ∀ (xs : List PyData) (x : PyData), PySem.W.minD x xs ∈ x :: xs ∧ ∀ d ∈ x :: xs, PySem.W.dataLt d (PySem.W.minD x xs) = false
  | [], x => ⟨List.mem_cons_self, fun d hd => by
    rw [List.mem_singleton.mp hd]; exact lex_irrefl _⟩
  | y :: ys, x => by
    have neg : ∀ a b c, PySem.W.dataLt a b = false → PySem.W.dataLt b c = false → PySem.W.dataLt a c = false := fun a b c h1 h2 => by
      cases e : PySem.W.dataLt a c with
      | false => rfl
      | true =>
        rcases (listOrd itemOrd).negTrans (PySem.W.keyToks a) (PySem.W.keyToks b) (PySem.W.keyToks c) e with h | h
        · have h' : PySem.W.dataLt a b = true := h
          rw [h1] at h'; cases h'
        · have h' : PySem.W.dataLt b c = true := h
          rw [h2] at h'; cases h'
    have asym : ∀ a b, PySem.W.dataLt a b = true → PySem.W.dataLt b a = false := fun a b h => by
      cases e : PySem.W.dataLt b a with
      | false => rfl
      | true =>
        have h1 := (listOrd itemOrd).trans (PySem.W.keyToks a) (PySem.W.keyToks b) (PySem.W.keyToks a) h e
        have h2 := (listOrd itemOrd).irrefl (PySem.W.keyToks a)
        rw [h2] at h1; cases h1
    show PySem.W.minD (if PySem.W.dataLt y x then y else x) ys ∈ _ ∧ ∀ d ∈ _, PySem.W.dataLt d (PySem.W.minD (if PySem.W.dataLt y x then y else x) ys) = false
    obtain ⟨h1, h2⟩ := minD_le ys (if PySem.W.dataLt y x then y else x)
    have hz := h2 _ List.mem_cons_self
    refine ⟨?_, fun d hd => ?_⟩
    · rcases List.mem_cons.mp h1 with h | h
      · rw [h]
        split
        · exact List.mem_cons_of_mem _ List.mem_cons_self
        · exact List.mem_cons_self
      · exact List.mem_cons_of_mem _ (List.mem_cons_of_mem _ h)
    · rcases List.mem_cons.mp hd with rfl | hd
      · refine neg _ _ _ ?_ hz
        split
        · rename_i h; exact asym _ _ h
        · exact lex_irrefl _
      · rcases List.mem_cons.mp hd with rfl | hd
        · refine neg _ _ _ ?_ hz
          split
          · exact lex_irrefl _
          · rename_i h; simpa using h
        · exact h2 d (List.mem_cons_of_mem _ hd)
theorem min_D {T : Type} {p : Addr} {xs : List V} {ts : List T} {enc : T → PyData} (s : Same B H) (h : H p = some (.lst xs)) (hd : Dts B xs (ts.map enc)) (hne : 0 < ts.length) (ha : ∀ a b, PySem.W.alike (enc a) (enc b) = true) (hn : ∀ a, enc a ≠ .none)
    (hdep : ∀ a, (enc a).depth ≤ 32) (q : ∀ v (m : T), m ∈ ts → (∀ a ∈ ts, PySem.W.dataLt (enc a) (enc m) = false) → Dt B v (enc m) → Q v H) : gMin K [.ref p] H Q := by
  cases ts with
  | nil => exact absurd hne (Nat.lt_irrefl 0)
  | cons t ts =>
    refine .inr (.inr ⟨p, xs, enc t, ts.map enc, rfl, .inl (.inl h), hd.dp s, ⟨fun a m b m' => ?_, fun a m => ?_⟩, depthAll_le fun a m => ?_, fun i v hx he => ?_⟩)
    · obtain ⟨a, _, rfl⟩ := List.mem_map.mp (show a ∈ (t :: ts).map enc from m)
      obtain ⟨b, _, rfl⟩ := List.mem_map.mp (show b ∈ (t :: ts).map enc from m')
      exact ha a b
    · obtain ⟨a, _, rfl⟩ := List.mem_map.mp (show a ∈ (t :: ts).map enc from m)
      exact hn a
    · obtain ⟨a, _, rfl⟩ := List.mem_map.mp (show a ∈ (t :: ts).map enc from m)
      exact hdep a
    · obtain ⟨h1, h2⟩ := minD_le (ts.map enc) (enc t)
      have he' : ((t :: ts).map enc)[i]? = some (PySem.W.minD (enc t) (ts.map enc)) := he
      rw [List.getElem?_map] at he'
      cases em : (t :: ts)[i]? with
      | none => rw [em] at he'; cases he'
      | some m =>
        rw [em] at he'
        have e3 := Option.some.inj he'
        obtain ⟨d, hd1, hd2⟩ := hd.at hx
        rw [show ((t :: ts).map enc)[i]? = some (enc m) by rw [List.getElem?_map, em]; rfl] at hd1
        refine q v m (List.mem_of_getElem? em) (fun a hm => ?_) (by rw [Option.some.inj hd1]; exact hd2)
        have := h2 (enc a) (List.mem_map.mpr ⟨a, hm, rfl⟩)
        rw [← e3] at this; exact this
end
/-! ### (key, number) -/
def encKI (a : Str × Int) : PyData := .tuple [.str a.1, .int a.2]
def ltKI (a b : Str × Int) : Bool := if a.1 = b.1 then decide (a.2 < b.2) else decide (lk a.1 b.1 = -1)
theorem alike_KI (a b : Str × Int) : PySem.W.alike (encKI a) (encKI b) = true := by
  unfold encKI; simp [PySem.W.alike, PySem.W.alikeAll]
theorem tup_KI (a : Str × Int) : ∃ x r, encKI a = .tuple (x :: r) := ⟨_, _, rfl⟩
theorem dep_KI (a : Str × Int) : (encKI a).depth ≤ 32 := by
  unfold encKI; simp [PyData.depth, PyData.depthAll]
theorem non_KI (a : Str × Int) : encKI a ≠ .none := fun h => nomatch h
theorem lt_KI (a b : Str × Int) : PySem.W.dataLt (encKI a) (encKI b) = ltKI a b := by
  unfold encKI ltKI
  rw [PySem.W.dataLt_pair (by simp [PySem.W.alike]) (by simp [PySem.W.alike]), PySem.W.dataLt_int, PySem.W.dataLt_str]
  show (if (a.1 == b.1) = true then (if (a.2 == b.2) = true then false else decide (a.2 < b.2)) else decide (a.1.cps.toList < b.1.cps.toList)) = _
  by_cases h : a.1 = b.1
  · rw [if_pos (by simpa using h), if_pos h]
    by_cases h2 : a.2 = b.2
    · rw [if_pos (by simpa using h2), h2]; simp
    · rw [if_neg (by simpa using h2)]
  · rw [if_neg (by simpa using h), if_neg h]
    exact decide_eq_decide.mpr lk_lt
end G

namespace G
open PySem PySem.Spec PyProof.Rows L2 TL RZ

/-! ### defs told by what they make of typed arguments -/
/-- a def that changes nothing: x stands for its arguments (pre), what it gives is told by post -/
def spF {T : Type} (pre : Hp → List V → T → Prop) (post : Hp → T → V → Prop) : Sp := fun vs H Q _ => ∃ (B : Hp) (x : T), Same B H ∧ pre B vs x ∧ ∀ v B' H', Pu B H B' H' → post B' x v → Q v H'
theorem Pu.fn {T : Type} {B0 H0 B H : Hp} {pre : Hp → List V → T → Prop} {post : Hp → T → V → Prop} {vs : List V} {Q : VK} {E : XK} (S : Pu B0 H0 B H) (x : T) (hp : pre B vs x)
    (q : ∀ v B' H', Pu B0 H0 B' H' → Old B H B' H' → Same B B' → post B' x v → Q v H') : spF pre post vs H Q E :=
  ⟨B, x, S.sub, hp, fun v B' H' S' r => q v B' H' (S.trans S') ⟨S'.old, S'.fr⟩ S'.kn r⟩
theorem St.fn {T : Type} {a : Addr} {B0 H0 B H : Hp} {n : Nat} {pre : Hp → List V → T → Prop} {post : Hp → T → V → Prop} {vs : List V} {Q : VK} {E : XK} (S : St a B0 H0 n B H) (x : T) (hp : pre B vs x)
    (q : ∀ v B' H', St a B0 H0 n B' H' → Oth a B H B' H' → Same B B' → post B' x v → Q v H') : spF pre post vs H Q E :=
  ⟨B, x, S.sub, hp, fun v B' H' S' r => q v B' H' (S.pu S') ⟨fun q o _ e => S'.old q o e, S'.fr⟩ S'.kn r⟩
theorem Same.fn {T : Type} {B H : Hp} {pre : Hp → List V → T → Prop} {post : Hp → T → V → Prop} {vs : List V} {Q : VK} {E : XK} (S : Same B H) (x : T) (hp : pre B vs x)
    (q : ∀ v B' H', Pu B H B' H' → post B' x v → Q v H') : spF pre post vs H Q E := ⟨B, x, S, hp, q⟩
/-- a def that draws, likewise -/
def spG {T : Type} (cost : Nat) (pre : Hp → List V → T → Prop) (post : Hp → T → V → Prop) : Sp := fun vs H Q _ =>
  ∃ (a : Addr) (rest : List V) (n : Nat) (B : Hp) (x : T), vs = .ref a :: rest ∧ Same B H ∧ B a = none ∧ Left a n H ∧ cost ≤ n ∧ pre B rest x ∧ ∀ v B' H', St a B H (n - cost) B' H' → post B' x v → Q v H'
theorem St.gn {T : Type} {a : Addr} {B0 H0 B H : Hp} {n cost : Nat} {pre : Hp → List V → T → Prop} {post : Hp → T → V → Prop} {rest : List V} {Q : VK} {E : XK} (S : St a B0 H0 n B H) (hc : cost ≤ n) (x : T) (hp : pre B rest x)
    (q : ∀ v B' H', St a B0 H0 (n - cost) B' H' → Oth a B H B' H' → Same B B' → post B' x v → Q v H') : spG cost pre post (.ref a :: rest) H Q E :=
  ⟨a, rest, n, B, x, rfl, S.sub, S.na, S.left, hc, hp, fun v B' H' S' r => q v B' H' (S.trans S') ⟨S'.oth, S'.fr⟩ S'.kn r⟩
/-! ### a text or None -/
def optK : Option Str → PyData
  | none => .none
  | some z => .str z
def optI : Option Int → PyData
  | none => .none
  | some z => .int z
def vK : Option Str → V
  | none => .non
  | some z => .str z
def vI : Option Int → V
  | none => .non
  | some z => .int z
theorem Dt.optK {B : Hp} {v : V} {o : Option Str} (h : Dt B v (G.optK o)) : v = vK o := by
  cases o with
  | none => exact h.n
  | some z => exact h.s
theorem Dt.optI {B : Hp} {v : V} {o : Option Int} (h : Dt B v (G.optI o)) : v = vI o := by
  cases o with
  | none => exact h.n
  | some z => exact h.i
theorem dt_optK {B : Hp} (o : Option Str) : Dt B (vK o) (G.optK o) := by
  cases o with
  | none => exact .non
  | some z => exact .str z
theorem dt_optI {B : Hp} (o : Option Int) : Dt B (vI o) (G.optI o) := by
  cases o with
  | none => exact .non
  | some z => exact .int z
/-- a pair, a triple -/
theorem Dt.two {B : Hp} {v : V} {d e : PyData} (h : Dt B v (.tuple [d, e])) : ∃ p x y, v = .ref p ∧ B p = some (.tup [x, y]) ∧ Dt B x d ∧ Dt B y e := by
  obtain ⟨p, xs, rfl, hp, t⟩ := h.tuple
  obtain ⟨x, xs, rfl, h1, t⟩ := t.cons'
  obtain ⟨y, xs, rfl, h2, t⟩ := t.cons'
  rw [t.nil'] at hp
  exact ⟨p, x, y, rfl, hp, h1, h2⟩
theorem Dt.three {B : Hp} {v : V} {d e f : PyData} (h : Dt B v (.tuple [d, e, f])) : ∃ p x y z, v = .ref p ∧ B p = some (.tup [x, y, z]) ∧ Dt B x d ∧ Dt B y e ∧ Dt B z f := by
  obtain ⟨p, xs, rfl, hp, t⟩ := h.tuple
  obtain ⟨x, xs, rfl, h1, t⟩ := t.cons'
  obtain ⟨y, xs, rfl, h2, t⟩ := t.cons'
  obtain ⟨z, xs, rfl, h3, t⟩ := t.cons'
  rw [t.nil'] at hp
  exact ⟨p, x, y, z, rfl, hp, h1, h2, h3⟩
theorem dt_two {B : Hp} {p : Addr} {x y : V} {d e : PyData} (h : B p = some (.tup [x, y])) (h1 : Dt B x d) (h2 : Dt B y e) : Dt B (.ref p) (.tuple [d, e]) := .tup h (.cons h1 (.cons h2 .nil))
theorem dt_three {B : Hp} {p : Addr} {x y z : V} {d e f : PyData} (h : B p = some (.tup [x, y, z])) (h1 : Dt B x d) (h2 : Dt B y e) (h3 : Dt B z f) : Dt B (.ref p) (.tuple [d, e, f]) := .tup h (.cons h1 (.cons h2 (.cons h3 .nil)))
theorem Dts.of {B : Hp} {T : Type} {xs : List V} {ts : List T} {enc : T → PyData} {i : Nat} {x : V} (h : Dts B xs (ts.map enc)) (hx : xs[i]? = some x) : ∃ t, ts[i]? = some t ∧ Dt B x (enc t) := by
  obtain ⟨d, hd, h'⟩ := h.at hx
  rw [List.getElem?_map] at hd
  cases e : ts[i]? with
  | none => rw [e] at hd; cases hd
  | some t =>
    rw [e] at hd
    rw [← Option.some.inj hd] at h'
    exact ⟨t, rfl, h'⟩
theorem fits_optK {n m : Nat} {o : Option Str} (h : ∀ z, o = some z → Ky m z) : Fits n (optK o) := by
  cases o with
  | none => exact fits_non
  | some z => exact fits_str (h z rfl).ok
theorem fits_optI {n : Nat} {o : Option Int} : Fits n (optI o) := by
  cases o with
  | none => exact fits_non
  | some z => exact fits_int
theorem fits_two {n : Nat} {d e : PyData} (h1 : Fits n d) (h2 : Fits n e) : Fits (n + 1) (.tuple [d, e]) := fits_tup (show 2 ≤ 100000 by decide) fun x hx => by
  rcases List.mem_cons.mp hx with rfl | hx
  · exact h1
  · rw [List.mem_singleton.mp hx]; exact h2
theorem fits_three {n : Nat} {d e f : PyData} (h1 : Fits n d) (h2 : Fits n e) (h3 : Fits n f) : Fits (n + 1) (.tuple [d, e, f]) := fits_tup (show 3 ≤ 100000 by decide) fun x hx => by
  rcases List.mem_cons.mp hx with rfl | hx
  · exact h1
  · rcases List.mem_cons.mp hx with rfl | hx
    · exact h2
    · rw [List.mem_singleton.mp hx]; exact h3
/-! ### sorted (key, number) -/
def leKI (a b : Str × Int) : Bool := !ltKI b a
theorem leKI_eq : leKI = PySem.W.sortLe (listOrd itemOrd) false fun a => PySem.W.keyToks (encKI a) := by
  funext a b
  unfold leKI
  rw [← lt_KI]; rfl
theorem leKI_total : ∀ a b, (leKI a b || leKI b a) = true := fun a b => by
  rw [leKI_eq]
  exact Bool.or_eq_true_iff.mpr ((PySem.W.sortLe_total (listOrd itemOrd) false fun a => PySem.W.keyToks (encKI a)).total a b)
theorem leKI_trans : ∀ a b c, leKI a b = true → leKI b c = true → leKI a c = true := fun a b c h1 h2 => by
  rw [leKI_eq] at *
  exact (PySem.W.sortLe_total (listOrd itemOrd) false fun a => PySem.W.keyToks (encKI a)).trans a b c h1 h2
theorem leKI_iff {a b : Str × Int} : leKI a b = true ↔ lk a.1 b.1 = -1 ∨ (a.1 = b.1 ∧ a.2 ≤ b.2) := by
  unfold leKI ltKI
  have hv := lk_val a.1 b.1
  have ha := lk_anti a.1 b.1
  by_cases h : b.1 = a.1
  · rw [if_pos h]
    have : lk a.1 b.1 = 0 := by rw [h]; exact lk_self _
    rw [Bool.not_eq_true', decide_eq_false_iff_not]
    constructor
    · exact fun z => .inr ⟨h.symm, by omega⟩
    · rintro (z | ⟨_, z⟩) <;> omega
  · rw [if_neg h]
    have h0 : lk a.1 b.1 ≠ 0 := fun z => h (lk_eq.mp z).symm
    rw [Bool.not_eq_true', decide_eq_false_iff_not]
    constructor
    · exact fun z => .inl (by omega)
    · rintro (z | ⟨z, _⟩)
      · omega
      · exact absurd z.symm h
theorem leKI_anti : ∀ a b, leKI a b = true → leKI b a = true → a = b := fun a b h1 h2 => by
  rw [leKI_iff] at h1 h2
  have ha := lk_anti a.1 b.1
  rcases h1 with h1 | ⟨h1, h3⟩
  · rcases h2 with h2 | ⟨h2, _⟩
    · omega
    · rw [h2, lk_self] at h1; omega
  · rcases h2 with h2 | ⟨_, h2⟩
    · rw [h1, lk_self] at h2; omega
    · exact Prod.ext h1 (by omega)
theorem sortKI_of {a l : List (Str × Int)} (hp : a.Perm l) (h : a.Pairwise fun x y => leKI x y = true) : a = l.mergeSort leKI := PySem.W.Srt.the_of_perm leKI leKI_trans leKI_total leKI_anti hp h
theorem sortKI_pw (l : List (Str × Int)) : (l.mergeSort leKI).Pairwise fun x y => leKI x y = true := List.pairwise_mergeSort leKI_trans leKI_total l
/-- sorted([(key, number), ..]) -/
theorem sorted_KI {K : PySem.W.Frag} {B H : Hp} {Q : VK} {p : Addr} {xs : List V} {ts : List (Str × Int)} (s : Same B H) (h : H p = some (.lst xs)) (hd : Dts B xs (ts.map encKI)) (q : ∀ ys, Dts B ys ((ts.mergeSort leKI).map encKI) → AtNew Q (.lst ys) H) : gSorted K [.ref p] H Q :=
  sorted_D s h hd alike_KI tup_KI dep_KI (fun a b => by rw [lt_KI]; rfl) q
theorem min_KI {K : PySem.W.Frag} {B H : Hp} {Q : VK} {p : Addr} {xs : List V} {ts : List (Str × Int)} (s : Same B H) (h : H p = some (.lst xs)) (hd : Dts B xs (ts.map encKI)) (hne : 0 < ts.length)
    (q : ∀ v (m : Str × Int), m ∈ ts → (∀ a ∈ ts, leKI m a = true) → Dt B v (encKI m) → Q v H) : gMin K [.ref p] H Q :=
  min_D s h hd hne alike_KI non_KI dep_KI fun v m hm hl hv => q v m hm (fun a ha => by
    have := hl a ha
    rw [lt_KI] at this
    unfold leKI; rw [this]; rfl) hv
theorem lk_lt_of {x y z : Str} (h1 : lk x y ≤ 0) (h2 : lk y z ≤ 0) (h : lk x y < 0 ∨ lk y z < 0) : lk x z < 0 := by
  have h3 := lk_trans h1 h2
  refine Decidable.byContradiction fun c => ?_
  have h0 : lk x z = 0 := by omega
  have e := lk_eq.mp h0
  subst e
  have ha := lk_anti x y
  omega
end G

namespace G
open PySem PySem.Spec PyProof.Rows L2 TL RZ

/-- a def that gives a new list that may be changed later; its items are told by post -/
def spV {T : Type} (pre : Hp → List V → T → Prop) (post : Hp → T → List V → Prop) : Sp := fun vs H Q _ => ∃ (B : Hp) (x : T), Same B H ∧ pre B vs x ∧ ∀ p xs B' H', Pu B H B' H' → H p = none → H' p = some (.lst xs) → B' p = none → post B' x xs → Q (.ref p) H'
theorem Pu.fv {T : Type} {B0 H0 B H : Hp} {pre : Hp → List V → T → Prop} {post : Hp → T → List V → Prop} {vs : List V} {Q : VK} {E : XK} (S : Pu B0 H0 B H) (x : T) (hp : pre B vs x)
    (q : ∀ p xs B' H', Pu B0 H0 B' H' → Old B H B' H' → Same B B' → H p = none → H' p = some (.lst xs) → B' p = none → H0 p = none → post B' x xs → Q (.ref p) H') : spV pre post vs H Q E :=
  ⟨B, x, S.sub, hp, fun p xs B' H' S' h1 h2 h3 r => q p xs B' H' (S.trans S') ⟨S'.old, S'.fr⟩ S'.kn h1 h2 h3 (S.free0 h1) r⟩
theorem St.fv {T : Type} {a : Addr} {B0 H0 B H : Hp} {n : Nat} {pre : Hp → List V → T → Prop} {post : Hp → T → List V → Prop} {vs : List V} {Q : VK} {E : XK} (S : St a B0 H0 n B H) (x : T) (hp : pre B vs x)
    (q : ∀ p xs B' H', St a B0 H0 n B' H' → Oth a B H B' H' → Same B B' → H p = none → H' p = some (.lst xs) → B' p = none → H0 p = none → p ≠ a → post B' x xs → Q (.ref p) H') : spV pre post vs H Q E :=
  ⟨B, x, S.sub, hp, fun p xs B' H' S' h1 h2 h3 r => q p xs B' H' (S.pu S') ⟨fun q o _ e => S'.old q o e, S'.fr⟩ S'.kn h1 h2 h3 (S.free0 h1) (S.nea h1) r⟩
/-- the same, and the list is known from now on -/
theorem St.fk {T : Type} {a : Addr} {B0 H0 B H : Hp} {n : Nat} {pre : Hp → List V → T → Prop} {post : Hp → T → List V → Prop} {vs : List V} {Q : VK} {E : XK} (S : St a B0 H0 n B H) (x : T) (hp : pre B vs x) (hm : ∀ B B' xs, Same B B' → post B x xs → post B' x xs)
    (q : ∀ p xs B' H', St a B0 H0 n B' H' → Oth a B H B' H' → Same B B' → B' p = some (.lst xs) → post B' x xs → Q (.ref p) H') : spV pre post vs H Q E :=
  S.fv x hp fun p xs B' H' S' O' K' h1 h2 h3 h4 h5 r => q p xs (upd B' p (.lst xs)) H' (S'.know h2 h4 h3 h5) ⟨O'.st, fun r hr => by rw [upd_ne (fun z => by rw [z] at hr; exact hr h1)]; exact O'.fr r hr⟩ (K'.trans (Same.new h3)) upd_same (hm _ _ _ (Same.new h3) r)
/-! ### heads, papers -/
def encH (h : Int × Option Str) : PyData := .tuple [.int h.1, optK h.2]
def encS (h : Int × Str) : PyData := .tuple [.int h.1, .str h.2]
/-- the rows that send a key -/
def sent : List (Int × Option Str) → List (Int × Str)
  | [] => []
  | (n, some z) :: r => (n, z) :: sent r
  | (_, none) :: r => sent r
theorem sent_app : ∀ a b : List (Int × Option Str), sent (a ++ b) = sent a ++ sent b
  | [], _ => rfl
  | (n, some z) :: r, b => by
    show (n, z) :: sent (r ++ b) = _
    rw [sent_app r b]; rfl
  | (n, none) :: r, b => by
    show sent (r ++ b) = _
    rw [sent_app r b]; rfl
theorem sent_len : ∀ a : List (Int × Option Str), (sent a).length ≤ a.length
  | [] => Nat.le_refl _
  | (n, some z) :: r => Nat.succ_le_succ (sent_len r)
  | (n, none) :: r => Nat.le_succ_of_le (sent_len r)
theorem sent_mem : ∀ {a : List (Int × Option Str)} {n : Int} {z : Str}, (n, z) ∈ sent a ↔ (n, some z) ∈ a
  | [], _, _ => ⟨fun h => (nomatch h), fun h => (nomatch h)⟩
  | (m, some y) :: r, n, z => by
    show (n, z) ∈ (m, y) :: sent r ↔ _
    rw [List.mem_cons, List.mem_cons, sent_mem (a := r)]
    simp
  | (m, none) :: r, n, z => by
    show (n, z) ∈ sent r ↔ _
    rw [List.mem_cons, sent_mem (a := r)]
    simp
/-- heads whose keys are not too long -/
def HK (m : Nat) (hs : List (Int × Option Str)) : Prop := ∀ h ∈ hs, ∀ z, h.2 = some z → Ky m z
theorem HK.sent {m : Nat} {hs : List (Int × Option Str)} (h : HK m hs) : ∀ s ∈ G.sent hs, Ky m s.2 := fun s hs' => h (s.1, some s.2) (sent_mem.mp hs') s.2 rfl
def DH (B : Hp) (v : V) (hs : List (Int × Option Str)) : Prop := Dt B v (.list (hs.map encH)) ∧ hs.length ≤ 1000 ∧ HK 60 hs
theorem DH.mono {B B' : Hp} {v : V} {hs : List (Int × Option Str)} (s : Same B B') (h : DH B v hs) : DH B' v hs := ⟨h.1.mono s, h.2⟩
theorem fits_heads {m n : Nat} {hs : List (Int × Option Str)} (hk : HK m hs) (hl : hs.length ≤ 1000) : Fits (n + 2) (.list (hs.map encH)) := fits_map (by omega) fun h hh => fits_two fits_int (fits_optK (hk h hh))
/-- of two rows the one that is sent: the first one if not less than the other -/
def win (l o : Int × Str) : Int × Str := if 0 < lk l.2 o.2 then o else l
def lost (l o : Int × Str) : Int × Int × Int := if 0 < lk l.2 o.2 then (l.1, o.1, lc l.2 o.2) else (o.1, l.1, lc l.2 o.2)
def encE (e : Int × Int × Int) : PyData := .tuple [.int e.1, .int e.2.1, .int e.2.2]
def bestStep (m : Option (Int × Str)) (o : Int × Str) : Option (Int × Str) := match m with
  | none => some o
  | some l => some (win l o)
/-- the row of the least key -/
def best (l : List (Int × Str)) : Option (Int × Str) := l.foldl bestStep none
theorem win_or (l o : Int × Str) : win l o = l ∨ win l o = o := by
  unfold win
  split
  · exact .inr rfl
  · exact .inl rfl
theorem best_mem : ∀ (l : List (Int × Str)) (m : Option (Int × Str)) (b : Int × Str), l.foldl bestStep m = some b → (m = some b) ∨ b ∈ l
  | [], m, b, h => .inl h
  | o :: r, m, b, h => by
    rcases best_mem r (bestStep m o) b h with e | e
    · cases m with
      | none =>
        have e' : some o = some b := e
        rw [Option.some.inj e']; exact .inr List.mem_cons_self
      | some l =>
        have e' : some (win l o) = some b := e
        rcases win_or l o with w | w
        · rw [w] at e'; exact .inl e'
        · rw [w] at e'
          rw [Option.some.inj e']; exact .inr List.mem_cons_self
    · exact .inr (List.mem_cons_of_mem _ e)
def Rows (hs : List (Int × Option Str)) : Prop := (hs.map (·.1)).Pairwise (· < ·)
def HeadsR (B : Hp) (v : V) (hs : List (Int × Option Str)) : Prop := Dt B v (.list (hs.map encH)) ∧ hs.length ≤ 16 ∧ HK 28 hs ∧ Rows hs ∧ ∀ h ∈ hs, 0 ≤ h.1
theorem HeadsR.mono {B B' : Hp} {v : V} {hs : List (Int × Option Str)} (s : Same B B') (h : HeadsR B v hs) : HeadsR B' v hs := ⟨h.1.mono s, h.2⟩
theorem HeadsR.dh {B : Hp} {v : V} {hs : List (Int × Option Str)} (h : HeadsR B v hs) : DH B v hs := ⟨h.1, by have := h.2.1; omega, fun x hx z hz => (h.2.2.1 x hx z hz).le (by decide)⟩
def swp (s : Int × Str) : Str × Int := (s.2, s.1)
/-- b is the least of l: by key, then by row -/
def Least (b : Int × Str) (l : List (Int × Str)) : Prop := ∀ s ∈ l, leKI (swp b) (swp s) = true
theorem fold_least : ∀ (l : List (Int × Str)) (m : Int × Str), (∀ s ∈ l, m.1 < s.1) → (l.map (·.1)).Pairwise (· < ·) → ∃ b, l.foldl bestStep (some m) = some b ∧ (b = m ∨ b ∈ l) ∧ leKI (swp b) (swp m) = true ∧ Least b l
  | [], m, _, _ => ⟨m, rfl, .inl rfl, leKI_iff.mpr (.inr ⟨rfl, Int.le_refl _⟩), fun _ h => nomatch h⟩
  | o :: r, m, hm, hp => by
    have hp2 : (o.1 :: r.map (·.1)).Pairwise (· < ·) := hp
    rw [List.pairwise_cons] at hp2
    have hmo := hm o List.mem_cons_self
    have hw : ∀ s ∈ r, (win m o).1 < s.1 := fun s hs => by
      have h1 := hm s (List.mem_cons_of_mem _ hs)
      have h2 := hp2.1 s.1 (List.mem_map.mpr ⟨s, hs, rfl⟩)
      rcases win_or m o with e | e
      · rw [e]; exact h1
      · rw [e]; exact h2
    obtain ⟨b, h1, h2, h3, h4⟩ := fold_least r (win m o) hw hp2.2
    have key : leKI (swp (win m o)) (swp m) = true ∧ leKI (swp (win m o)) (swp o) = true := by
      have ha := lk_anti m.2 o.2
      have hv := lk_val m.2 o.2
      unfold win
      by_cases c : 0 < lk m.2 o.2
      · rw [if_pos c]
        exact ⟨leKI_iff.mpr (.inl (by show lk o.2 m.2 = -1; omega)), leKI_iff.mpr (.inr ⟨rfl, Int.le_refl _⟩)⟩
      · rw [if_neg c]
        refine ⟨leKI_iff.mpr (.inr ⟨rfl, Int.le_refl _⟩), leKI_iff.mpr ?_⟩
        by_cases e : lk m.2 o.2 = 0
        · exact .inr ⟨lk_eq.mp e, Int.le_of_lt hmo⟩
        · exact .inl (by show lk m.2 o.2 = -1; omega)
    refine ⟨b, h1, ?_, leKI_trans _ _ _ h3 key.1, fun s hs => ?_⟩
    · rcases h2 with h2 | h2
      · rcases win_or m o with e | e
        · exact .inl (h2.trans e)
        · exact .inr (by rw [h2, e]; exact List.mem_cons_self)
      · exact .inr (List.mem_cons_of_mem _ h2)
    · rcases List.mem_cons.mp hs with rfl | hs
      · exact leKI_trans _ _ _ h3 key.2
      · exact h4 s hs
theorem best_least {l : List (Int × Str)} (hp : (l.map (·.1)).Pairwise (· < ·)) (hne : l ≠ []) : ∃ b, best l = some b ∧ b ∈ l ∧ Least b l := by
  cases l with
  | nil => exact absurd rfl hne
  | cons m r =>
    have hp2 : (m.1 :: r.map (·.1)).Pairwise (· < ·) := hp
    rw [List.pairwise_cons] at hp2
    obtain ⟨b, h1, h2, h3, h4⟩ := fold_least r m (fun s hs => hp2.1 s.1 (List.mem_map.mpr ⟨s, hs, rfl⟩)) hp2.2
    refine ⟨b, h1, ?_, fun s hs => ?_⟩
    · rcases h2 with rfl | h2
      · exact List.mem_cons_self
      · exact List.mem_cons_of_mem _ h2
    · rcases List.mem_cons.mp hs with rfl | hs
      · exact h3
      · exact h4 s hs
theorem Least.uniq {b c : Int × Str} {l : List (Int × Str)} (hb : b ∈ l) (hc : c ∈ l) (h : Least b l) (h' : Least c l) : b = c := by
  have e := leKI_anti _ _ (h c hc) (h' b hb)
  have e1 : b.2 = c.2 := congrArg (·.1) e
  have e2 : b.1 = c.1 := congrArg (·.2) e
  exact Prod.ext e2 e1
theorem sent_rows : ∀ {hs : List (Int × Option Str)}, Rows hs → ((sent hs).map (·.1)).Pairwise (· < ·)
  | [], _ => List.Pairwise.nil
  | (n, none) :: r, h => by
    have h2 : (n :: r.map (·.1)).Pairwise (· < ·) := h
    exact sent_rows (hs := r) (List.pairwise_cons.mp h2).2
  | (n, some z) :: r, h => by
    have h2 : (n :: r.map (·.1)).Pairwise (· < ·) := h
    rw [List.pairwise_cons] at h2
    refine List.pairwise_cons.mpr ⟨fun m hm => ?_, sent_rows (hs := r) h2.2⟩
    obtain ⟨s, hs, rfl⟩ := List.mem_map.mp hm
    exact h2.1 s.1 (List.mem_map.mpr ⟨_, sent_mem.mp (show (s.1, s.2) ∈ sent r from hs), rfl⟩)
def leS (a b : Int × Str) : Bool := leKI (swp a) (swp b)
theorem leS_trans : ∀ a b c, leS a b = true → leS b c = true → leS a c = true := fun a b c => leKI_trans _ _ _
theorem leS_total : ∀ a b, (leS a b || leS b a) = true := fun a b => leKI_total _ _
theorem leS_anti : ∀ a b, leS a b = true → leS b a = true → a = b := fun a b h1 h2 => by
  have e := leKI_anti _ _ h1 h2
  exact Prod.ext (congrArg (·.2) e) (congrArg (·.1) e)
/-- the rows by key, then number -/
def ord (l : List (Int × Str)) : List (Int × Str) := l.mergeSort leS
theorem ord_perm (l : List (Int × Str)) : (ord l).Perm l := List.mergeSort_perm _ _
theorem ord_of {a l : List (Int × Str)} (hp : a.Perm l) (h : a.Pairwise fun x y => leS x y = true) : a = ord l := PySem.W.Srt.the_of_perm leS leS_trans leS_total leS_anti hp h
theorem perm_filter {b : Int × Str} : ∀ {l : List (Int × Str)}, (l.map (·.1)).Pairwise (· < ·) → b ∈ l → (b :: l.filter (fun s => !decide (s.1 = b.1))).Perm l
  | x :: r, hp, hb => by
    have hp2 : (x.1 :: r.map (·.1)).Pairwise (· < ·) := hp
    rw [List.pairwise_cons] at hp2
    by_cases e : x = b
    · subst e
      rw [List.filter_cons_of_neg (by simp), List.filter_eq_self.mpr]
      intro s hs
      have := hp2.1 s.1 (List.mem_map.mpr ⟨s, hs, rfl⟩)
      rw [decide_eq_false (by omega)]; rfl
    · have hb' : b ∈ r := by
        rcases List.mem_cons.mp hb with h | h
        · exact absurd h.symm e
        · exact h
      have := hp2.1 b.1 (List.mem_map.mpr ⟨b, hb', rfl⟩)
      rw [List.filter_cons_of_pos (by rw [decide_eq_false (by omega)]; rfl)]
      exact (List.Perm.swap x b _).trans ((perm_filter (l := r) hp2.2 hb').cons x)
/-- without the row n -/
def wo (n : Int) (hs : List (Int × Option Str)) : List (Int × Option Str) := hs.filter fun h => !decide (h.1 = n)
theorem sent_wo (n : Int) : ∀ hs : List (Int × Option Str), sent (wo n hs) = (sent hs).filter (fun s => !decide (s.1 = n))
  | [] => rfl
  | (m, o) :: r => by
    unfold wo
    by_cases e : m = n
    · rw [List.filter_cons_of_neg (by simp [e])]
      cases o with
      | none => exact sent_wo n r
      | some z =>
        show _ = ((m, z) :: sent r).filter _
        rw [List.filter_cons_of_neg (by simp [e])]; exact sent_wo n r
    · rw [List.filter_cons_of_pos (by simp [e])]
      cases o with
      | none => exact sent_wo n r
      | some z =>
        show (m, z) :: sent (r.filter _) = ((m, z) :: sent r).filter _
        rw [List.filter_cons_of_pos (by simp [e])]
        exact congrArg _ (sent_wo n r)
theorem ord_step {hs : List (Int × Option Str)} (hr : Rows hs) {b : Int × Str} (h : best (sent hs) = some b) : ord (sent hs) = b :: ord (sent (wo b.1 hs)) := by
  have hne : sent hs ≠ [] := fun z => by rw [z] at h; cases h
  obtain ⟨c, hc, hcm, hcl⟩ := best_least (sent_rows hr) hne
  rw [h] at hc
  cases hc
  refine (ord_of ?_ ?_).symm
  · rw [sent_wo]
    exact ((ord_perm _).cons b).trans (perm_filter (sent_rows hr) hcm)
  · refine List.pairwise_cons.mpr ⟨fun s hs' => ?_, List.pairwise_mergeSort leS_trans leS_total _⟩
    have := (ord_perm _).mem_iff.mp hs'
    rw [sent_wo] at this
    exact hcl s (List.mem_filter.mp this).1
theorem wo_rows {n : Int} {hs : List (Int × Option Str)} (h : Rows hs) : Rows (wo n hs) := (h : (hs.map (·.1)).Pairwise (· < ·)).sublist ((List.filter_sublist).map _)
theorem wo_hk {m : Nat} {n : Int} {hs : List (Int × Option Str)} (h : HK m hs) : HK m (wo n hs) := fun x hx => h x (List.mem_filter.mp hx).1
theorem wo_len {n : Int} {hs : List (Int × Option Str)} : (wo n hs).length ≤ hs.length := List.length_filter_le _ _
def paperF : Option (Int × Str) → List (Int × Str) → List (Int × Int × Int)
  | _, [] => []
  | none, o :: r => paperF (some o) r
  | some l, o :: r => lost l o :: paperF (some (win l o)) r
theorem paperF_app : ∀ (l r : List (Int × Str)) (m : Option (Int × Str)), paperF m (l ++ r) = paperF m l ++ paperF (l.foldl bestStep m) r
  | [], r, m => by
    cases m <;> rfl
  | o :: l, r, none => paperF_app l r (some o)
  | o :: l, r, some m => congrArg (lost m o :: ·) (paperF_app l r (some (win m o)))
theorem paperF_len : ∀ (l : List (Int × Str)) (m : Option (Int × Str)), (paperF m l).length ≤ l.length
  | [], m => by cases m <;> exact Nat.le_refl _
  | o :: l, none => Nat.le_succ_of_le (paperF_len l (some o))
  | o :: l, some m => Nat.succ_le_succ (paperF_len l (some (win m o)))
def signsF (es : List (Int × Int × Int)) : Int := (es.map fun e => e.2.2 + 1).sum
/-- (key, row), sorted -/
def ordK (hs : List (Int × Option Str)) : List (Str × Int) := ((sent hs).map swp).mergeSort leKI
theorem ordK_len (hs : List (Int × Option Str)) : (ordK hs).length = (sent hs).length := by
  unfold ordK
  rw [(List.mergeSort_perm _ _).length_eq, List.length_map]
theorem ordK_ky {m : Nat} {hs : List (Int × Option Str)} (h : HK m hs) : ∀ s ∈ ordK hs, Ky m s.1 := fun s hs' => by
  obtain ⟨x, hx, rfl⟩ := List.mem_map.mp ((List.mergeSort_perm _ _).mem_iff.mp hs')
  exact HK.sent h x hx
/-- each by the one just less -/
def chainF : List (Str × Int) → List (Int × Int × Int)
  | x :: y :: r => (y.2, x.2, (lc x.1 y.1 : Int)) :: chainF (y :: r)
  | _ => []
/-- each by the least -/
def starF : List (Str × Int) → List (Int × Int × Int)
  | [] => []
  | x :: r => r.map fun y => (y.2, x.2, (lc y.1 x.1 : Int))
theorem chainF_at : ∀ {l : List (Str × Int)} {i : Nat} {a b : Str × Int}, l[i]? = some a → l[i + 1]? = some b → (chainF l)[i]? = some (b.2, a.2, (lc a.1 b.1 : Int))
  | [], _, _, _, h, _ => by simp at h
  | [_], _, _, _, _, h => by simp at h
  | x :: y :: r, 0, a, b, h1, h2 => by
    have e1 := Option.some.inj h1
    have e2 := Option.some.inj h2
    rw [← e1, ← e2]; rfl
  | x :: y :: r, i + 1, a, b, h1, h2 => chainF_at (l := y :: r) (i := i) (by simpa using h1) (by simpa using h2)
theorem chainF_len : ∀ l : List (Str × Int), (chainF l).length = l.length - 1
  | [] => rfl
  | [_] => rfl
  | x :: y :: r => by
    show (chainF (y :: r)).length + 1 = _
    rw [chainF_len (y :: r)]; rfl
theorem starF_at {l : List (Str × Int)} {i : Nat} {a b : Str × Int} (h1 : l[0]? = some a) (h2 : l[i + 1]? = some b) : (starF l)[i]? = some (b.2, a.2, (lc b.1 a.1 : Int)) := by
  cases l with
  | nil => simp at h1
  | cons x r =>
    have e1 : x = a := Option.some.inj h1
    have e2 : r[i]? = some b := by simpa using h2
    show (r.map _)[i]? = _
    rw [List.getElem?_map, e2, e1]; rfl
theorem starF_len : ∀ l : List (Str × Int), (starF l).length = l.length - 1
  | [] => rfl
  | x :: r => by
    show (r.map _).length = _
    rw [List.length_map]; rfl
end G

namespace G
open PySem PySem.Spec PyProof.Rows L2 TL RZ

/-! ### dicts whose keys are whole numbers -/
def dI {α : Type} (f : α → V) (l : List (Int × α)) : List (Key × V) := l.map fun e => (Sum.inl e.1, f e.2)
def kget {α : Type} (l : List (Int × α)) (n : Int) : Option α := (l.find? fun e => decide (e.1 = n)).map (·.2)
section
variable {α : Type} {f : α → V}
theorem kget_nil (n : Int) : kget ([] : List (Int × α)) n = none := rfl
theorem kget_cons (e : Int × α) (l : List (Int × α)) (n : Int) : kget (e :: l) n = if e.1 = n then some e.2 else kget l n := by
  unfold kget
  by_cases h : e.1 = n
  · rw [List.find?_cons_of_pos (by simpa using h), if_pos h]; rfl
  · rw [List.find?_cons_of_neg (by simpa using h), if_neg h]
theorem valV_dI : ∀ (l : List (Int × α)) (n : Int), valV (dI f l) (Sum.inl n) = (kget l n).map f
  | [], _ => rfl
  | e :: l, n => by
    rw [kget_cons]
    show valV ((Sum.inl e.1, f e.2) :: dI f l) (Sum.inl n) = _
    by_cases h : e.1 = n
    · rw [if_pos h, valV_pos (by rw [h])]; rfl
    · rw [if_neg h, valV_neg (fun z => h (Sum.inl.inj z)), valV_dI l n]
theorem dI_len (l : List (Int × α)) : (dI f l).length = l.length := List.length_map _
theorem kget_mem : ∀ {l : List (Int × α)} {n : Int} {x : α}, kget l n = some x → (n, x) ∈ l
  | [], _, _, h => nomatch h
  | e :: l, n, x, h => by
    rw [kget_cons] at h
    split at h
    · rename_i c
      rw [← c, ← Option.some.inj h]; exact List.mem_cons_self
    · exact List.mem_cons_of_mem _ (kget_mem h)
theorem kget_none : ∀ {l : List (Int × α)} {n : Int}, kget l n = none ↔ n ∉ l.map (·.1)
  | [], _ => ⟨fun _ h => (nomatch h), fun _ => rfl⟩
  | e :: l, n => by
    rw [kget_cons, List.map_cons, List.mem_cons]
    by_cases h : e.1 = n
    · rw [if_pos h]
      exact ⟨fun z => (nomatch z), fun z => (z (.inl h.symm)).elim⟩
    · rw [if_neg h, kget_none (l := l)]
      exact ⟨fun z c => c.elim (fun c => h c.symm) z, fun z c => z (.inr c)⟩
theorem kget_some {l : List (Int × α)} {n : Int} : (kget l n).isSome = decide (n ∈ l.map (·.1)) := by
  cases e : kget l n with
  | none => exact (decide_eq_false (kget_none.mp e)).symm
  | some x => exact (decide_eq_true (List.mem_map.mpr ⟨_, kget_mem e, rfl⟩)).symm
theorem kget_of : ∀ {l : List (Int × α)} {n : Int} {x : α}, (l.map (·.1)).Nodup → (n, x) ∈ l → kget l n = some x
  | [], _, _, _, h => nomatch h
  | e :: l, n, x, hn, h => by
    rw [List.map_cons, List.nodup_cons] at hn
    rw [kget_cons]
    rcases List.mem_cons.mp h with h | h
    · rw [← h, if_pos rfl]
    · rw [if_neg (fun z => hn.1 (by rw [z]; exact List.mem_map.mpr ⟨_, h, rfl⟩)), kget_of hn.2 h]
/-- of unlike keys the dict is the list itself -/
theorem merge_dI : ∀ (l a : List (Int × α)), ((a ++ l).map (·.1)).Nodup → mergeK (dI f a) (dI f l) = dI f (a ++ l)
  | [], a, _ => by rw [List.append_nil]; rfl
  | e :: l, a, h => by
    show mergeK (putK (dI f a) (Sum.inl e.1) (f e.2)) (dI f l) = _
    have hn : kget a e.1 = none := kget_none.mpr fun z => by
      rw [List.map_append, List.map_cons, List.nodup_append] at h
      exact h.2.2 _ z _ List.mem_cons_self rfl
    rw [putK_new _ (by rw [valV_dI, hn]; rfl)]
    have e1 : dI f a ++ [(Sum.inl e.1, f e.2)] = dI f (a ++ [e]) := by unfold dI; rw [List.map_append]; rfl
    rw [e1, merge_dI l (a ++ [e]) (by rw [List.append_assoc]; exact h), List.append_assoc]; rfl
theorem merge_nd {l : List (Int × α)} (h : (l.map (·.1)).Nodup) : mergeK [] (dI f l) = dI f l := merge_dI l [] h
theorem put_new {l : List (Int × α)} {n : Int} {x : α} (h : n ∉ l.map (·.1)) : putK (dI f l) (Sum.inl n) (f x) = dI f (l ++ [(n, x)]) := by
  rw [putK_new _ (by rw [valV_dI, kget_none.mpr h]; rfl)]
  unfold dI; rw [List.map_append]; rfl
end
theorem nodup_lt {l : List Int} (h : l.Pairwise (· < ·)) : l.Nodup := h.imp fun h => Int.ne_of_lt h
section
variable {K : PySem.W.Frag} {H : Hp} {Q : VK} {d : Addr}
/-- d[n], n in d, len(d), d[n] = v, by numbers -/
theorem dget_i {kvs : List (Key × V)} {n : Int} {v : V} (h : H d = some (.dK kvs)) (hv : valV kvs (Sum.inl n) = some v) (q : Q v H) : gIx K (.ref d) (.int n) H Q := .inr ⟨d, v, rfl, by rw [← hv]; exact DGet.k (k := Sum.inl n) h, q⟩
theorem dget_s {kvs : List (Key × V)} {n : Str} {v : V} (h : H d = some (.dK kvs)) (hv : valV kvs (Sum.inr n) = some v) (q : Q v H) : gIx K (.ref d) (.str n) H Q := .inr ⟨d, v, rfl, by rw [← hv]; exact DGet.k (k := Sum.inr n) h, q⟩
theorem din_i {kvs : List (Key × V)} {n : Int} (h : H d = some (.dK kvs)) (q : Q (.bl (valV kvs (Sum.inl n)).isSome) H) : gIn K (.int n) (.ref d) H Q := .inr (.inr (.inl ⟨d, _, rfl, DGet.k (k := Sum.inl n) h, q⟩))
theorem din_s {kvs : List (Key × V)} {n : Str} (h : H d = some (.dK kvs)) (q : Q (.bl (valV kvs (Sum.inr n)).isSome) H) : gIn K (.str n) (.ref d) H Q := .inr (.inr (.inl ⟨d, _, rfl, DGet.k (k := Sum.inr n) h, q⟩))
theorem din_n {kvs : List (Key × V)} (h : H d = some (.dK kvs)) (q : Q (.bl false) H) : gIn K .non (.ref d) H Q := .inr (.inr (.inr ⟨d, kvs, rfl, rfl, .inl h, q⟩))
theorem dnin_i {kvs : List (Key × V)} {n : Int} (h : H d = some (.dK kvs)) (q : Q (.bl (!(valV kvs (Sum.inl n)).isSome)) H) : gNotIn K (.int n) (.ref d) H Q := .inr (.inr (.inl ⟨d, _, rfl, DGet.k (k := Sum.inl n) h, q⟩))
theorem dnin_s {kvs : List (Key × V)} {n : Str} (h : H d = some (.dK kvs)) (q : Q (.bl (!(valV kvs (Sum.inr n)).isSome)) H) : gNotIn K (.str n) (.ref d) H Q := .inr (.inr (.inl ⟨d, _, rfl, DGet.k (k := Sum.inr n) h, q⟩))
theorem dnin_n {kvs : List (Key × V)} (h : H d = some (.dK kvs)) (q : Q (.bl true) H) : gNotIn K .non (.ref d) H Q := .inr (.inr (.inr ⟨d, kvs, rfl, rfl, .inl h, q⟩))
theorem dlen {kvs : List (Key × V)} (h : H d = some (.dK kvs)) (q : Q (.int kvs.length) H) : gLen K [.ref d] H Q := .inr ⟨d, kvs, rfl, h, q⟩
theorem deq0 {e : Addr} {kvs : List (Key × V)} (h : H d = some (.dK kvs)) (h' : H e = some (.dK [])) (q : Q (.bl kvs.isEmpty) H) : gEq K (.ref d) (.ref e) H Q := .inr (.inr ⟨d, e, kvs, rfl, rfl, h, h', q⟩)
theorem dput_i {kvs : List (Key × V)} {n : Int} {v : V} {R : Hp → Prop} (h : H d = some (.dK kvs)) (hl : kvs.length < 1048576) (q : R (upd H d (.dK (putK kvs (Sum.inl n) v)))) : gSet (.ref d) (.int n) v H R :=
  .inr ⟨d, _, rfl, DPut.k (k := Sum.inl n) h (szl'' hl), q⟩
theorem dput_s {kvs : List (Key × V)} {n : Str} {v : V} {R : Hp → Prop} (h : H d = some (.dK kvs)) (hl : kvs.length < 1048576) (q : R (upd H d (.dK (putK kvs (Sum.inr n) v)))) : gSet (.ref d) (.str n) v H R :=
  .inr ⟨d, _, rfl, DPut.k (k := Sum.inr n) h (szl'' hl), q⟩
/-- {n: b}, n a name -/
theorem disp_1 {σ : L2.St} {i : Nat} {n : Int} {v : V} (e : σ[i]? = some (some (.int n))) (q : AtNew Q (.dK [(Sum.inl n, v)]) H) : tDisp [(tVar i, tC v)] σ H Q := by
  intro p hp
  refine ⟨.int n, e, upd_same, [(Sum.inl n, v)], rfl, Nat.le_of_ble_eq_true rfl, ?_⟩
  rw [upd_upd]; exact q p hp
theorem dnewK {σ : L2.St} (q : AtNew Q (.dK []) H) : tDNewK σ H Q := q
/-- dict([(n, x), ..]) -/
theorem paired_map {α β γ : Type} {R : β → γ → Prop} {f : α → β} {g : α → γ} : ∀ {l : List α}, (∀ a ∈ l, R (f a) (g a)) → Paired R (l.map f) (l.map g)
  | [], _ => .nil
  | a :: l, h => .cons (h a List.mem_cons_self) (paired_map fun b hb => h b (List.mem_cons_of_mem _ hb))
theorem dict_pairs {α : Type} {B : Hp} {a : Addr} {xs : List V} {l : List (Int × α)} {f : α → V} {g : α → PyData} (s : Same B H) (h : H a = some (.lst xs)) (hd : Dts B xs (l.map fun e => .tuple [.int e.1, g e.2])) (hg : ∀ v x, Dt B v (g x) → v = f x)
    (hn : (l.map (·.1)).Nodup) (q : AtNew Q (.dK (dI f l)) H) : gDict K [.ref a] H Q := by
  have ex : ∃ ps : List Addr, xs = ps.map V.ref ∧ Paired (fun p kv => SqT K H p [kV kv.1, kv.2]) ps (dI f l) := by
    clear h hn q
    revert xs
    induction l with
    | nil =>
      intro xs hd
      cases hd
      exact ⟨[], rfl, .nil⟩
    | cons e l ih =>
      intro xs hd
      cases hd with
      | cons h1 t1 =>
        obtain ⟨ps, rfl, hp⟩ := ih t1
        obtain ⟨p, x, y, rfl, et, hx, hy⟩ := h1.two
        rw [hx.i, hg _ _ hy] at et
        exact ⟨p :: ps, rfl, .cons (.inl (.inl (s _ _ et))) hp⟩
  obtain ⟨ps, rfl, hp⟩ := ex
  exact .inl ⟨a, ps, dI f l, rfl, .inl (.inl h), hp, fun p hp => by rw [merge_nd hn]; exact q p hp⟩
/-- sorted(d) -/
theorem sorted_di {α : Type} {f : α → V} {l : List (Int × α)} (h : H d = some (.dK (dI f l))) (hl : l.length < 64) (q : ∀ ys : List Int, ys.Perm (l.map (·.1)) → ys.Pairwise (· ≤ ·) → AtNew Q (.lst (ys.map V.int)) H) : gSorted K [.ref d] H Q :=
  gSorted.k ⟨d, dI f l, l.map (·.1), rfl, .inl h, by unfold dI; rw [List.map_map, List.map_map]; rfl, by rw [List.length_map]; exact hl, fun ys p h1 h2 hp => q ys h1 h2 p hp⟩
end
/-! ### str() -/
section
variable {K : PySem.W.Frag} {B H : Hp} {Q : VK} {x : V} {d : PyData}
theorem str_int {i : Int} (h : i.natAbs.log2 < 1920) (q : Q (.str (toString i)) H) : gStr K [.int i] H Q := .inl (.inl ⟨i, rfl, h, q⟩)
theorem str_str {z : Str} (q : Q (.str z) H) : gStr K [.str z] H Q := .inl (.inr ⟨z, rfl, q⟩)
/-- what may be shown: not too long -/
def txt : PyData → Str
  | .str z => z
  | d => d.shown
theorem str_data (s : Same B H) (h : Dt B x d) (hs : d.showable = true) (hz : d.shown.length ≤ sizeLine) (hd : d.depth ≤ 60) (hn : d.hasDict = false) (q : Q (.str (txt d)) H) : gStr K [x] H Q := by
  cases d with
  | none =>
    rw [h.n]
    exact .inr (.inr (.inr ⟨rfl, q⟩))
  | bool b =>
    rw [h.b]
    exact .inr (.inr (.inl ⟨b, rfl, q⟩))
  | int i =>
    rw [h.i]
    exact .inl (.inl ⟨i, rfl, by simpa [PyData.showable] using hs, q⟩)
  | str z =>
    rw [h.s]
    exact .inl (.inr ⟨z, rfl, q⟩)
  | list ds =>
    obtain ⟨p, xs, rfl, _, _⟩ := h.list
    exact .inr (.inl ⟨p, _, rfl, h.dp s, hs, hn, hz, hd, q⟩)
  | tuple ds =>
    obtain ⟨p, xs, rfl, _, _⟩ := h.tuple
    exact .inr (.inl ⟨p, _, rfl, h.dp s, hs, hn, hz, hd, q⟩)
  | dict kvs => cases h
end
end G

namespace G
open PySem PySem.Spec PyProof.Rows L2 TL RZ

theorem tl_take (z : Str) (k : Nat) : tl (cutS z none (some (k : Int))) = (tl z).take k := by
  rw [tl_cut, HT.sIx_none, HT.sIx_nat, List.drop_zero, Nat.sub_zero, len_tl]
  by_cases h : k ≤ (tl z).length
  · rw [Nat.min_eq_left h]
  · rw [Nat.min_eq_right (by omega), List.take_of_length_le (Nat.le_refl _), List.take_of_length_le (by omega)]
theorem tl_dropS (z : Str) (k : Nat) : tl (cutS z (some (k : Int)) none) = (tl z).drop k := by
  rw [tl_cut, HT.sIx_none, HT.sIx_nat, len_tl]
  by_cases h : k ≤ (tl z).length
  · rw [Nat.min_eq_left h, List.take_of_length_le (by rw [List.length_drop]; exact Nat.le_refl _)]
  · rw [Nat.min_eq_right (by omega), List.drop_of_length_le (Nat.le_refl _), List.drop_of_length_le (by omega)]; simp
theorem drop_get {α : Type} : ∀ {l : List α} {i : Nat} {a : α}, l[i]? = some a → l.drop i = a :: l.drop (i + 1)
  | [], _, _, h => by simp at h
  | x :: l, 0, a, h => by
    rw [← Option.some.inj h]; rfl
  | x :: l, i + 1, a, h => drop_get (l := l) (by simpa using h)
/-! ### the check of papers -/
def isCnt : PyData → Bool
  | .int i => decide (0 ≤ i)
  | _ => false
def isNum : PyData → Bool
  | .int _ => true
  | _ => false
def isEntP (p : PyData → Bool) : PyData → Bool
  | .tuple ds => decide (ds.length = 3) && ds.all p
  | _ => false
def entOf : PyData → Int × Int × Int
  | .tuple [.int a, .int b, .int c] => (a, b, c)
  | _ => (0, 0, 0)
theorem isEntP_yes {p : PyData → Bool} {ds : List PyData} (h : ds.length = 3) : isEntP p (.tuple ds) = ds.all p := by
  show (decide (ds.length = 3) && ds.all p) = _
  rw [decide_eq_true h, Bool.true_and]
theorem isEntP_no {p : PyData → Bool} {ds : List PyData} (h : ds.length ≠ 3) : isEntP p (.tuple ds) = false := by
  show (decide (ds.length = 3) && ds.all p) = _
  rw [decide_eq_false h, Bool.false_and]
theorem isNum_of {d : PyData} (h : isNum d = true) : ∃ i, d = .int i := by
  cases d with
  | int i => exact ⟨i, rfl⟩
  | _ => cases h
theorem isCnt_of {d : PyData} (h : isCnt d = true) : ∃ i : Int, d = .int i ∧ 0 ≤ i := by
  cases d with
  | int i => exact ⟨i, rfl, of_decide_eq_true h⟩
  | _ => cases h
theorem isCnt_num {d : PyData} (h : isCnt d = true) : isNum d = true := by
  obtain ⟨i, rfl, _⟩ := isCnt_of h; rfl
theorem isEntP_of {p : PyData → Bool} (hp : ∀ d, p d = true → isNum d = true) {d : PyData} (h : isEntP p d = true) : ∃ a b c : Int, d = encE (a, b, c) ∧ entOf d = (a, b, c) ∧ p (.int a) = true ∧ p (.int b) = true ∧ p (.int c) = true := by
  cases d with
  | tuple ds =>
    unfold isEntP at h
    rw [Bool.and_eq_true, decide_eq_true_eq, List.all_eq_true] at h
    obtain ⟨hl, ha⟩ := h
    match ds, hl with
    | [x, y, z], _ =>
      have h1 := ha x (by simp)
      have h2 := ha y (by simp)
      have h3 := ha z (by simp)
      obtain ⟨a, rfl⟩ := isNum_of (hp _ h1)
      obtain ⟨b, rfl⟩ := isNum_of (hp _ h2)
      obtain ⟨c, rfl⟩ := isNum_of (hp _ h3)
      exact ⟨a, b, c, rfl, rfl, h1, h2, h3⟩
  | _ => cases h
def lostF (x y : Str) (f : Nat) (b : Bool) : Bool :=
  if f ≤ lc x y then (if f = (tl y).length then (decide (f < (tl x).length) || b) else (decide (f < (tl x).length) && decide ((tl y).getD f 0 < (tl x).getD f 0))) else false
def lossF (ks : List (Int × Str)) : List Int → List (Int × Int × Int) → Bool
  | ah, [] => decide (ah.length = ks.length)
  | ah, (r, w, f) :: es => match kget ks r, kget ks w with
    | some x, some y => if r ∉ ah ∧ w ∈ ah ∧ lostF x y f.toNat (decide (w < r)) = true then lossF ks (ah ++ [r]) es else false
    | _, _ => false
def showsF (hs : List (Int × Option Str)) (o : Option Int) : PyData → Bool
  | .list ds => ds.all (isEntP isCnt) && (match o with
    | none => decide (sent hs = []) && decide (ds = [])
    | some n => (kget (sent hs) n).isSome && lossF (sent hs) [n] (ds.map entOf))
  | _ => false
theorem lcp_take : ∀ (xs ys : List Nat) (f : Nat), f ≤ xs.length → f ≤ ys.length → (xs.take f = ys.take f ↔ f ≤ lcp xs ys)
  | _, _, 0, _, _ => ⟨fun _ => Nat.zero_le _, fun _ => rfl⟩
  | [], _, _ + 1, h, _ => absurd h (by simp)
  | _ :: _, [], _ + 1, _, h => absurd h (by simp)
  | x :: xs, y :: ys, f + 1, h1, h2 => by
    unfold lcp
    rw [List.take_succ_cons, List.take_succ_cons]
    by_cases e : x = y
    · rw [if_pos e, e, Nat.add_le_add_iff_right, ← lcp_take xs ys f (by simpa using h1) (by simpa using h2)]
      exact ⟨fun z => (List.cons.inj z).2, fun z => by rw [z]⟩
    · rw [if_neg e]
      exact ⟨fun z => absurd (List.cons.inj z).1 e, fun z => absurd z (by omega)⟩
end G

namespace G
open PySem PySem.Spec PyProof.Rows L2 TL RZ

/-! ### the laws' own look at papers -/
def HeadsW (B : Hp) (v : V) (hs : List (Int × Option Str)) : Prop := Dt B v (.list (hs.map encH)) ∧ hs.length ≤ 60 ∧ HK 60 hs ∧ Rows hs ∧ ∀ h ∈ hs, 0 ≤ h.1
theorem HeadsW.mono {B B' : Hp} {v : V} {hs : List (Int × Option Str)} (s : Same B B') (h : HeadsW B v hs) : HeadsW B' v hs := ⟨h.1.mono s, h.2⟩
theorem HeadsW.dh {B : Hp} {v : V} {hs : List (Int × Option Str)} (h : HeadsW B v hs) : DH B v hs := ⟨h.1, by have := h.2.1; omega, h.2.2.1⟩
theorem HeadsR.w {B : Hp} {v : V} {hs : List (Int × Option Str)} (h : HeadsR B v hs) : HeadsW B v hs := ⟨h.1, by have := h.2.1; omega, fun x hx z hz => (h.2.2.1 x hx z hz).le (by decide), h.2.2.2⟩
def loopF (ks : List (Int × Str)) : List Int → List (Int × Int × Int) → Bool
  | _, [] => true
  | ah, (r, w, f) :: es => match kget ks r, kget ks w with
    | some x, some y => if w ∈ ah ∧ 0 ≤ f ∧ lostF x y f.toNat (decide (w < r)) = true then loopF ks (ah ++ [r]) es else false
    | _, _ => false
def rowsOf (es : List (Int × Int × Int)) : List Int := es.map (·.1)
theorem nodup_1 {α : Type} (a : α) : [a].Nodup := List.pairwise_singleton _ _
theorem filter_len_add {α : Type} (p : α → Bool) : ∀ l : List α, l.length = (l.filter p).length + (l.filter fun x => !p x).length
  | [] => rfl
  | a :: l => by
    have ih := filter_len_add p l
    cases h : p a with
    | true => rw [List.filter_cons_of_pos h, List.filter_cons_of_neg (by rw [h]; decide), List.length_cons, List.length_cons]; omega
    | false => rw [List.filter_cons_of_neg (by rw [h]; decide), List.filter_cons_of_pos (by rw [h]; rfl), List.length_cons, List.length_cons]; omega
theorem filter_none_len {ks : List Int} {ah : List Int} (hk : ks.Nodup) (ha : ah.Nodup) (hs : ∀ r ∈ ah, r ∈ ks) : (ks.filter fun r => !decide (r ∈ ah)) = [] ↔ ah.length = ks.length := by
  have hp : (ks.filter fun r => decide (r ∈ ah)).Perm ah := by
    refine (List.perm_ext_iff_of_nodup (hk.sublist List.filter_sublist) ha).mpr fun r => ?_
    rw [List.mem_filter, decide_eq_true_eq]
    exact ⟨fun h => h.2, fun h => ⟨hs r h, h⟩⟩
  have hl := filter_len_add (fun r => decide (r ∈ ah)) ks
  rw [hp.length_eq] at hl
  constructor
  · intro h
    rw [h] at hl; simpa using hl.symm
  · intro h
    exact List.eq_nil_of_length_eq_zero (by omega)
theorem filter_step {ks : List Int} {ah : List Int} {r : Int} (hk : ks.Nodup) (hr : r ∈ ks) (ha : r ∉ ah) (R : List Int) :
    (r :: R).Perm (ks.filter fun x => !decide (x ∈ ah)) ↔ R.Perm (ks.filter fun x => !decide (x ∈ ah ++ [r])) := by
  have e : (r :: ks.filter fun x => !decide (x ∈ ah ++ [r])).Perm (ks.filter fun x => !decide (x ∈ ah)) := by
    refine (List.perm_ext_iff_of_nodup ?_ (hk.sublist List.filter_sublist)).mpr fun x => ?_
    · refine List.nodup_cons.mpr ⟨fun z => ?_, hk.sublist List.filter_sublist⟩
      have := (List.mem_filter.mp z).2
      simp at this
    · rw [List.mem_cons, List.mem_filter, List.mem_filter]
      by_cases c : x = r
      · subst c
        simp [hr, ha]
      · simp [c]
  constructor
  · exact fun h => (h.trans e.symm).cons_inv
  · exact fun h => (h.cons r).trans e
theorem loss_loop {ks : List (Int × Str)} (hk : (ks.map (·.1)).Nodup) : ∀ (es : List (Int × Int × Int)) (ah : List Int), ah.Nodup → (∀ r ∈ ah, r ∈ ks.map (·.1)) → (∀ e ∈ es, 0 ≤ e.2.2) →
    (lossF ks ah es = true ↔ (rowsOf es).Perm ((ks.map (·.1)).filter fun r => !decide (r ∈ ah)) ∧ loopF ks ah es = true)
  | [], ah, hn, hs, _ => by
    unfold lossF loopF rowsOf
    rw [decide_eq_true_eq, List.map_nil, List.nil_perm, filter_none_len hk hn hs, List.length_map]
    exact ⟨fun h => ⟨h, rfl⟩, fun h => h.1⟩
  | (r, w, f) :: es, ah, hn, hs, hf => by
    unfold lossF loopF
    have hf0 : 0 ≤ f := hf _ List.mem_cons_self
    cases hr : kget ks r with
    | none => simp
    | some x =>
      cases hw : kget ks w with
      | none => simp
      | some y =>
        have hrk : r ∈ ks.map (·.1) := List.mem_map.mpr ⟨_, kget_mem hr, rfl⟩
        show (if r ∉ ah ∧ w ∈ ah ∧ lostF x y f.toNat (decide (w < r)) = true then lossF ks (ah ++ [r]) es else false) = true ↔ (r :: rowsOf es).Perm _ ∧ (if w ∈ ah ∧ 0 ≤ f ∧ lostF x y f.toNat (decide (w < r)) = true then loopF ks (ah ++ [r]) es else false) = true
        by_cases h1 : r ∈ ah
        · rw [if_neg (fun z => z.1 h1)]
          refine ⟨fun z => (nomatch z), fun z => ?_⟩
          have := (List.mem_filter.mp (z.1.mem_iff.mp List.mem_cons_self)).2
          rw [decide_eq_true h1] at this; cases this
        · have ih := loss_loop hk es (ah ++ [r]) (List.nodup_append.mpr ⟨hn, nodup_1 r, fun a ha b hb => by rw [List.mem_singleton.mp hb]; exact fun z => h1 (z ▸ ha)⟩) (fun a ha => by
            rcases List.mem_append.mp ha with ha | ha
            · exact hs a ha
            · rw [List.mem_singleton.mp ha]; exact hrk) (fun e he => hf e (List.mem_cons_of_mem _ he))
          rw [filter_step hk hrk h1]
          by_cases h2 : w ∈ ah ∧ lostF x y f.toNat (decide (w < r)) = true
          · rw [if_pos ⟨h1, h2⟩, if_pos ⟨h2.1, hf0, h2.2⟩]; exact ih
          · rw [if_neg (fun z => h2 z.2), if_neg (fun z => h2 ⟨z.1, z.2.2⟩)]
            exact ⟨fun z => (nomatch z), fun z => (nomatch z.2)⟩
/-- what the loop takes has no number below nought -/
theorem loop_cnt {ks : List (Int × Str)} (h0 : ∀ s ∈ ks, (0 : Int) ≤ s.1) : ∀ (es : List (Int × Int × Int)) (ah : List Int), loopF ks ah es = true → ∀ e ∈ es, 0 ≤ e.1 ∧ 0 ≤ e.2.1 ∧ 0 ≤ e.2.2
  | [], _, _, _, h => nomatch h
  | (r, w, f) :: es, ah, h, e, he => by
    unfold loopF at h
    cases hr : kget ks r with
    | none => rw [hr] at h; cases h
    | some x =>
      cases hw : kget ks w with
      | none => rw [hr, hw] at h; cases h
      | some y =>
        rw [hr, hw] at h
        have h' : (if w ∈ ah ∧ 0 ≤ f ∧ lostF x y f.toNat (decide (w < r)) = true then loopF ks (ah ++ [r]) es else false) = true := h
        split at h'
        · rename_i c
          rcases List.mem_cons.mp he with rfl | he
          · exact ⟨h0 _ (kget_mem hr), h0 _ (kget_mem hw), c.2.1⟩
          · exact loop_cnt h0 es _ h' e he
        · cases h'
theorem ent_back {p : PyData → Bool} (hp : ∀ d, p d = true → isNum d = true) {ds : List PyData} (h : ds.all (isEntP p) = true) : ds = (ds.map entOf).map encE := by
  rw [List.map_map]
  refine (List.map_id ds).symm.trans (List.map_congr_left fun d hd => ?_)
  obtain ⟨a, b, c, e6, e7, _⟩ := isEntP_of hp (List.all_eq_true.mp h d hd)
  show d = encE (entOf d)
  rw [e7, e6]
theorem enc_cnt (e : Int × Int × Int) : isEntP isCnt (encE e) = true ↔ 0 ≤ e.1 ∧ 0 ≤ e.2.1 ∧ 0 ≤ e.2.2 := by
  unfold encE
  rw [isEntP_yes rfl]
  simp [isCnt]
theorem shows_loop {hs : List (Int × Option Str)} (hr : Rows hs) (h0 : ∀ h ∈ hs, (0 : Int) ≤ h.1) {ds : List PyData} (hn : ds.all (isEntP isNum) = true) {n : Int} (hk : (kget (sent hs) n).isSome = true) :
    showsF hs (some n) (.list ds) = (decide ((rowsOf (ds.map entOf)).Perm (((sent hs).map (·.1)).filter fun r => !decide (r = n))) && loopF (sent hs) [n] (ds.map entOf)) := by
  have hnd := nodup_lt (sent_rows hr)
  have hnm : n ∈ (sent hs).map (·.1) := by rw [kget_some] at hk; exact of_decide_eq_true hk
  have h0s : ∀ s ∈ sent hs, (0 : Int) ≤ s.1 := fun s hs' => h0 _ (sent_mem.mp (show (s.1, s.2) ∈ sent hs from hs'))
  have eb := ent_back (fun _ h => h) hn
  have hf1 : (fun r : Int => !decide (r = n)) = fun r => !decide (r ∈ [n]) := by
    funext r; simp
  show (ds.all (isEntP isCnt) && ((kget (sent hs) n).isSome && lossF (sent hs) [n] (ds.map entOf))) = _
  rw [hk, Bool.true_and, hf1]
  rw [Bool.eq_iff_iff, Bool.and_eq_true, Bool.and_eq_true, decide_eq_true_eq]
  have hsub : ∀ r ∈ [n], r ∈ (sent hs).map (·.1) := fun r hr => by rw [List.mem_singleton.mp hr]; exact hnm
  constructor
  · rintro ⟨ha, hl⟩
    refine (loss_loop hnd _ [n] (nodup_1 n) hsub fun e he => ?_).mp hl
    obtain ⟨d, hd, rfl⟩ := List.mem_map.mp he
    have := List.all_eq_true.mp ha d hd
    obtain ⟨a, b, c, e6, e7, _⟩ := isEntP_of (fun _ => isCnt_num) this
    rw [e6, enc_cnt] at this
    rw [e7]; exact this.2.2
  · rintro ⟨hp, hl⟩
    have hc := loop_cnt h0s _ _ hl
    refine ⟨?_, (loss_loop hnd _ [n] (nodup_1 n) hsub fun e he => (hc e he).2.2).mpr ⟨hp, hl⟩⟩
    rw [eb, List.all_map, List.all_eq_true]
    exact fun e he => (enc_cnt e).mpr (hc e he)
/-! ### sorted lists of numbers -/
def leI (a b : Int) : Bool := decide (a ≤ b)
theorem sortI_uniq {a b : List Int} (hp : a.Perm b) (ha : a.Pairwise (· ≤ ·)) (hb : b.Pairwise (· ≤ ·)) : a = b := by
  have t : ∀ a b c, leI a b = true → leI b c = true → leI a c = true := fun a b c h1 h2 => decide_eq_true (Int.le_trans (of_decide_eq_true h1) (of_decide_eq_true h2))
  have tt : ∀ a b, (leI a b || leI b a) = true := fun a b => by
    unfold leI
    rcases Int.le_total a b with h | h
    · rw [decide_eq_true h]; rfl
    · rw [decide_eq_true h, Bool.or_true]
  have an : ∀ a b, leI a b = true → leI b a = true → a = b := fun a b h1 h2 => Int.le_antisymm (of_decide_eq_true h1) (of_decide_eq_true h2)
  rw [PySem.W.Srt.the_of_perm leI t tt an hp (ha.imp fun h => decide_eq_true h)]
  exact (PySem.W.Srt.the_of_perm leI t tt an (List.Perm.refl b) (hb.imp fun h => decide_eq_true h)).symm
theorem sorted_eq {ys zs R F : List Int} (h1 : ys.Perm R) (h2 : ys.Pairwise (· ≤ ·)) (h3 : zs.Perm F) (h4 : zs.Pairwise (· ≤ ·)) : ys = zs ↔ R.Perm F :=
  ⟨fun h => (h1.symm.trans (h ▸ List.Perm.refl _)).trans h3, fun h => sortI_uniq (h1.trans (h.trans h3.symm)) h2 h4⟩
end G

namespace G
open PySem PySem.Spec PyProof.Rows L2 TL RZ

/-! ### a dict while it is walked -/
mutual
theorem Dt.upd {B : Hp} {d : Addr} {u w : HO} (hd : B d = some u) (h1 : ∀ xs, u ≠ .lst xs) (h2 : ∀ xs, u ≠ .tup xs) : ∀ {v : V} {x : PyData}, Dt B v x → Dt (upd B d w) v x
  | _, _, .non => .non
  | _, _, .bl b => .bl b
  | _, _, .int i => .int i
  | _, _, .str z => .str z
  | _, _, .lst (p := p) h t => .lst (by
      rw [upd_ne (fun z => by rw [z, hd] at h; exact h1 _ (Option.some.inj h))]; exact h) (t.upd hd h1 h2)
  | _, _, .tup (p := p) h t => .tup (by
      rw [upd_ne (fun z => by rw [z, hd] at h; exact h2 _ (Option.some.inj h))]; exact h) (t.upd hd h1 h2)
theorem Dts.upd {B : Hp} {d : Addr} {u w : HO} (hd : B d = some u) (h1 : ∀ xs, u ≠ .lst xs) (h2 : ∀ xs, u ≠ .tup xs) : ∀ {vs : List V} {xs : List PyData}, Dts B vs xs → Dts (upd B d w) vs xs
  | _, _, .nil => .nil
  | _, _, .cons h t => .cons (h.upd hd h1 h2) (t.upd hd h1 h2)
end
section
variable {a d : Addr} {B0 H0 B H B' H' : Hp} {n n' : Nat} {u w : HO}
theorem Same.upd_at (s : Same B H) (d : Addr) (u : HO) : Same (upd B d u) (upd H d u) := fun q o e => by
  by_cases z : q = d
  · rw [z, upd_same] at e ⊢; exact e
  · rw [upd_ne z] at e ⊢; exact s q o e
theorem St.lock (S : St a B0 H0 n B H) (hd : d ≠ a) (w : HO) : St a (upd B d w) (upd H d w) n (upd B d w) (upd H d w) :=
  St.new (Same.upd_at S.sub d w) (by
    obtain ⟨o, e, l⟩ := S.left
    exact ⟨o, by rw [upd_ne hd.symm]; exact e, l⟩) (by rw [upd_ne hd.symm]; exact S.na)
theorem St.unlock (S : St a B0 H0 n B H) (hb : B d = some u) (hd : d ≠ a) (S' : St a (upd B d w) (upd H d w) n' B' H') : St a B0 H0 n' (upd B' d u) (upd H' d u) :=
  ⟨fun q o e => by
      have h1 := S.kn q o e
      by_cases z : q = d
      · rw [z] at h1 ⊢
        rw [upd_same, ← h1, hb]
      · rw [upd_ne z]; exact S'.kn q o (by rw [upd_ne z]; exact h1),
    Same.upd_at S'.sub d u, by rw [upd_ne hd.symm]; exact S'.na,
    by
      obtain ⟨o, e, l⟩ := S'.left
      exact ⟨o, by rw [upd_ne hd.symm]; exact e, l⟩,
    fun q o hq e => by
      have h1 := S.oth q o hq e
      by_cases z : q = d
      · rw [z] at h1 ⊢
        rw [upd_same, ← h1, S.sub _ _ hb]
      · rw [upd_ne z]; exact S'.oth q o hq (by rw [upd_ne z]; exact h1),
    fun q hq => by
      by_cases z : q = d
      · rw [z] at hq ⊢
        rw [upd_same, ← S.fr d hq, hb]
      · rw [upd_ne z, S'.fr q, upd_ne z, S.fr q hq]
        rw [upd_ne z]
        by_cases hqa : q = a
        · rw [hqa]; exact S.has
        · cases e : H0 q with
          | none => exact absurd e hq
          | some o => rw [S.oth q o hqa e]; exact fun c => nomatch c⟩
theorem St.unlock_kn (S : St a B0 H0 n B H) (hb : B d = some u) (S' : St a (upd B d w) (upd H d w) n' B' H') : Same B (upd B' d u) := fun q o e => by
  by_cases z : q = d
  · rw [z] at e ⊢
    rw [upd_same, ← e, hb]
  · rw [upd_ne z]; exact S'.kn q o (by rw [upd_ne z]; exact e)
theorem St.lock_st (hd : d ≠ a) (S' : St a (upd B d w) (upd H d w) n' B' H') : H' d = some w ∧ B' d = some w := ⟨S'.oth d w hd upd_same, S'.kn d w upd_same⟩
theorem St.unlock_oth (S : St a B0 H0 n B H) (hb : B d = some u) (hd : d ≠ a) (S' : St a (upd B d w) (upd H d w) n' B' H') : Oth a B H (upd B' d u) (upd H' d u) :=
  let T := (St.new S.sub S.left S.na).unlock hb hd S'
  ⟨T.oth, T.fr⟩
theorem Pu.unlock (S : Pu B0 H0 B H) (hb : B d = some u) (S' : Pu (upd B d w) (upd H d w) B' H') : Pu B0 H0 (upd B' d u) (upd H' d u) :=
  ⟨fun q o e => by
      have h1 := S.kn q o e
      by_cases z : q = d
      · rw [z] at h1 ⊢
        rw [upd_same, ← h1, hb]
      · rw [upd_ne z]; exact S'.kn q o (by rw [upd_ne z]; exact h1),
    Same.upd_at S'.sub d u, fun q o e => by
      have h1 := S.old q o e
      by_cases z : q = d
      · rw [z] at h1 ⊢
        rw [upd_same, ← h1, S.sub _ _ hb]
      · rw [upd_ne z]; exact S'.old q o (by rw [upd_ne z]; exact h1),
    fun q hq => by
      by_cases z : q = d
      · rw [z] at hq ⊢
        rw [upd_same, ← S.fr d hq, hb]
      · rw [upd_ne z, S'.fr q, upd_ne z, S.fr q hq]
        rw [upd_ne z]
        cases e : H0 q with
        | none => exact absurd e hq
        | some o => rw [S.old q o e]; exact fun c => nomatch c⟩
theorem Pu.unlock_kn (hb : B d = some u) (S' : Pu (upd B d w) (upd H d w) B' H') : Same B (upd B' d u) := fun q o e => by
  by_cases z : q = d
  · rw [z] at e ⊢
    rw [upd_same, ← e, hb]
  · rw [upd_ne z]; exact S'.kn q o (by rw [upd_ne z]; exact e)
theorem Pu.unlock_old (S : Pu B0 H0 B H) (hb : B d = some u) (S' : Pu (upd B d w) (upd H d w) B' H') : Old B H (upd B' d u) (upd H' d u) :=
  let T := (Pu.new S.sub).unlock hb S'
  ⟨T.old, T.fr⟩
theorem Same.upd_un {d : Addr} {u w : HO} (h : B d = some u) : upd (upd B d w) d u = B := by
  funext q
  by_cases z : q = d
  · rw [z, upd_same, h]
  · rw [upd_ne z, upd_ne z]
theorem wk_keys {o : Obj} {kvs : List (Key × V)} : Wk (Itk d o kvs) kvs.length (fun H => H d = some (.frz o (.dK kvs))) (fun i x H H' => H' = H ∧ ∃ k v, kvs[i]? = some (k, v) ∧ x = kV k) :=
  ⟨fun i H h g => ⟨g, h⟩, fun H g => ⟨g, Nat.le_refl _⟩, fun i H x H' _ _ y => y⟩
theorem wk_values {o : Obj} {kvs : List (Key × V)} : Wk (Itd d o kvs) kvs.length (fun H => H d = some (.frz o (.dK kvs))) (fun i x H H' => H' = H ∧ ∃ k, kvs[i]? = some (k, x)) :=
  ⟨fun i H h g => ⟨g, h⟩, fun H g => ⟨g, Nat.le_refl _⟩, fun i H x H' _ _ y => y⟩
theorem wk_items {o : Obj} {kvs : List (Key × V)} : Wk (Iti d o kvs) kvs.length (fun H => H d = some (.frz o (.dK kvs))) (fun i x H H' => ∃ T k v, kvs[i]? = some (k, v) ∧ x = .ref T ∧ H T = none ∧ H' = upd H T (.tup [kV k, v])) :=
  ⟨fun i H h g => ⟨g, h⟩, fun H g => ⟨g, Nat.le_refl _⟩, fun i H x H' _ _ y => y⟩
end
section
variable {K : PySem.W.Frag} {H : Hp} {Q : VK} {d : Addr} {o : Obj}
theorem dgetF_i {kvs : List (Key × V)} {n : Int} {v : V} (h : H d = some (.frz o (.dK kvs))) (hv : valV kvs (Sum.inl n) = some v) (q : Q v H) : gIx K (.ref d) (.int n) H Q := .inr ⟨d, v, rfl, .inl ⟨kvs, Sum.inl n, .inr ⟨o, h⟩, rfl, hv.symm⟩, q⟩
def LockE (t : TE) (σ : L2.St) (H : Hp) (Q : VK) : Prop := ∃ d u, H d = some u ∧ Mut (some u) ∧ ∀ od, t σ (upd H d (.frz od u)) fun v H' => H' d = some (.frz od u) ∧ Q v (upd H' d u)
theorem g_lockE {t : TE} {σ : L2.St} (h : LockE t σ H Q) : tLockE t σ H Q := h
def Ky1 (R : It → Hp → Prop) (x : V) (H1 : Hp) : Prop := ∃ d o, x = .ref d ∧ ((∃ kvs, H1 d = some (.frz o (.dK kvs)) ∧ R (Itk d o kvs) H1) ∨ ∃ kvs, H1 d = some (.frz o (.dT kvs)) ∧ R (Itkt d o kvs) H1)
theorem g_ikeys {td : TE} {σ : L2.St} {R : It → Hp → Prop} (h : td σ H (Ky1 R)) : iKeys td σ H R := h
end
end G
namespace G
theorem map_at' {α β : Type} {f : α → β} {xs : List α} {i : Nat} {x : β} (h : (xs.map f)[i]? = some x) : ∃ a, xs[i]? = some a ∧ x = f a := by
  rw [List.getElem?_map] at h
  cases e : xs[i]? with
  | none => rw [e] at h; cases h
  | some a => rw [e] at h; exact ⟨a, rfl, (Option.some.inj h).symm⟩
end G
namespace G
open PySem PySem.Spec PyProof.Rows L2 TL RZ
theorem Dts.set {B : Hp} : ∀ {vs : List V} {ds : List PyData} (j : Nat) {v : V} {d : PyData}, Dts B vs ds → Dt B v d → Dts B (vs.set j v) (ds.set j d)
  | _, _, _, _, _, .nil, _ => .nil
  | _, _, 0, _, _, .cons _ t, h => .cons h t
  | _, _, j + 1, _, _, .cons h' t, h => .cons h' (t.set j h)
section
variable {K : PySem.W.Frag} {H : Hp} {Q : VK}
theorem pop_at {l : Addr} {xs : List V} {j : Nat} {y : V} (h : H l = some (.lst xs)) (hy : xs[j]? = some y) (hl : xs.length ≤ 1048576) (q : Q y (upd H l (.lst (xs.take j ++ xs.drop (j + 1))))) : rPopAt (.ref l) [.int (j : Int)] H Q := by
  have hj : j < xs.length := (List.getElem?_eq_some_iff.mp hy).1
  refine ⟨l, xs, j, j, y, rfl, rfl, h, by omega, by omega, ?_, hy, by rw [List.eraseIdx_eq_take_drop_succ]; exact q⟩
  rw [seqIndex_of (by omega) (by omega)]; rfl
def tOrK (K : PySem.W.Frag) (ta tb : TE) : TE := fun σ H Q => ta σ H fun x H1 => ∃ k, TruV K x H1 k ∧ if k = true then Q x H1 else tb σ H1 Q
theorem pe_orTK {X : Cx} {a b : Expr} {rest : List Expr} {pos : Pos} {ta tb : TE} (ha : PE X a ta) (hb : PE X (.BoolOp .Or (b :: rest) pos) tb) (hK : X.K = K := by rfl) : PE X (.BoolOp .Or (a :: b :: rest) pos) (tOrK K ta tb) := by subst hK; exact pe_orT ha hb
def tAndK (K : PySem.W.Frag) (ta tb : TE) : TE := fun σ H Q => ta σ H fun x H1 => ∃ k, TruV K x H1 k ∧ if k = true then tb σ H1 Q else Q x H1
theorem pe_andTK {X : Cx} {a b : Expr} {rest : List Expr} {pos : Pos} {ta tb : TE} (ha : PE X a ta) (hb : PE X (.BoolOp .And (b :: rest) pos) tb) (hK : X.K = K := by rfl) : PE X (.BoolOp .And (a :: b :: rest) pos) (tAndK K ta tb) := by subst hK; exact pe_andT ha hb
def OrB (K : PySem.W.Frag) (tb : TE) (σ : L2.St) (Q : VK) (x : V) (H1 : Hp) : Prop := ∃ k, TruV K x H1 k ∧ if k = true then Q x H1 else tb σ H1 Q
theorem g_orT {ta tb : TE} {σ : L2.St} (h : ta σ H (OrB K tb σ Q)) : tOrK K ta tb σ H Q := h
theorem or_non {tb : TE} {σ : L2.St} (h : tb σ H Q) : OrB K tb σ Q .non H := ⟨false, rfl, iteF h⟩
theorem or_str {tb : TE} {σ : L2.St} {z : Str} (hz : z.length ≤ 1048576) (h1 : z.length ≠ 0 → Q (.str z) H) (h2 : z.length = 0 → tb σ H Q) : OrB K tb σ Q (.str z) H := by
  refine ⟨((z.length : Int) != 0), ⟨szl' hz, rfl⟩, ?_⟩
  by_cases e : z.length = 0
  · rw [if_neg (by rw [e]; decide)]; exact h2 e
  · rw [if_pos (by simp; omega)]; exact h1 e
end
theorem cut_upto (xs : List V) (k : Nat) : cutV xs none (some (k : Int)) = xs.take k := by
  have := cut_take id xs k
  rwa [List.map_id, List.map_id] at this
theorem cut_from (xs : List V) (k : Nat) : cutV xs (some (k : Int)) none = xs.drop k := by
  have := cut_drop id xs k
  rwa [List.map_id, List.map_id] at this
end G

namespace G
open PySem PySem.Spec PyProof.Rows L2 TL RZ

/-! ### data that may be shown -/
def Sw (k : Nat) (d : PyData) : Prop := d.weight ≤ k ∧ d.intsShort 13 = true ∧ d.showable = true
theorem Sw.le {j k : Nat} {d : PyData} (h : Sw j d) (hk : j ≤ k) : Sw k d := ⟨Nat.le_trans h.1 hk, h.2⟩
theorem sw_non {k : Nat} : Sw k .none := ⟨Nat.zero_le _, rfl, rfl⟩
theorem sw_bool {k : Nat} {b : Bool} : Sw k (.bool b) := ⟨Nat.zero_le _, rfl, rfl⟩
theorem sw_int {i : Int} (h : i.natAbs < 10 ^ 12) : Sw 40 (.int i) := by
  have hl : i.natAbs.log2 < 40 := by
    by_cases e : i.natAbs = 0
    · rw [e]; decide
    · exact (Nat.log2_lt e).mpr (Nat.lt_trans h (by decide))
  refine ⟨?_, ?_, ?_⟩
  · rw [PyData.weight]; split <;> omega
  · rw [PyData.intsShort]; exact decide_eq_true (PyData.shown_int_le h)
  · rw [PyData.showable]; exact decide_eq_true (by omega)
theorem sw_int' {i : Int} (h0 : -1000000000000 < i) (h1 : i < 1000000000000) : Sw 40 (.int i) := sw_int (by omega)
theorem sw_str {z : Str} {k : Nat} (h : z.length ≤ k) : Sw k (.str z) := ⟨h, rfl, rfl⟩
theorem sw_all {n k : Nat} : ∀ {ds : List PyData}, ds.length ≤ n → (∀ d ∈ ds, Sw k d) → PyData.weightAll ds ≤ n * (k + 1) ∧ PyData.intsShortAll 13 ds = true ∧ PyData.showableAll ds = true
  | [], _, _ => ⟨Nat.zero_le _, rfl, rfl⟩
  | d :: ds, hl, h => by
    obtain ⟨m, rfl⟩ : ∃ m, n = m + 1 := ⟨n - 1, by rw [List.length_cons] at hl; omega⟩
    have h1 := h d List.mem_cons_self
    obtain ⟨i1, i2, i3⟩ := sw_all (n := m) (ds := ds) (by rw [List.length_cons] at hl; omega) fun e he => h e (List.mem_cons_of_mem _ he)
    refine ⟨?_, ?_, ?_⟩
    · rw [PyData.weightAll, Nat.succ_mul]; have := h1.1; omega
    · rw [PyData.intsShortAll, h1.2.1, i2]; rfl
    · rw [PyData.showableAll, h1.2.2, i3]; rfl
theorem sw_list {n k : Nat} {ds : List PyData} (hl : ds.length ≤ n) (h : ∀ d ∈ ds, Sw k d) : Sw (n * (k + 1)) (.list ds) := by
  obtain ⟨h1, h2, h3⟩ := sw_all hl h
  exact ⟨by rw [PyData.weight]; exact h1, by rw [PyData.intsShort]; exact h2, by rw [PyData.showable]; exact h3⟩
theorem sw_tup {n k : Nat} {ds : List PyData} (hl : ds.length ≤ n) (h : ∀ d ∈ ds, Sw k d) : Sw (n * (k + 1)) (.tuple ds) := by
  obtain ⟨h1, h2, h3⟩ := sw_all hl h
  exact ⟨by rw [PyData.weight]; exact h1, by rw [PyData.intsShort]; exact h2, by rw [PyData.showable]; exact h3⟩
theorem all1 {P : PyData → Prop} {a : PyData} (h : P a) : ∀ d ∈ [a], P d := fun d hd => by rw [List.mem_singleton.mp hd]; exact h
theorem all0 {P : PyData → Prop} : ∀ d ∈ ([] : List PyData), P d := fun _ h => nomatch h
theorem allc {P : PyData → Prop} {a : PyData} {l : List PyData} (h : P a) (t : ∀ d ∈ l, P d) : ∀ d ∈ a :: l, P d := fun d hd => by
  rcases List.mem_cons.mp hd with rfl | hd
  · exact h
  · exact t d hd
/-- v is data, m deep at most, not too long when shown -/
def Dat (m k : Nat) (B : Hp) (v : V) : Prop := ∃ d, Dt B v d ∧ Fits m d ∧ Sw k d
theorem Dat.mono {m k : Nat} {B B' : Hp} {v : V} (s : Same B B') : Dat m k B v → Dat m k B' v := fun ⟨d, h1, h2⟩ => ⟨d, h1.mono s, h2⟩
theorem Dat.le {m k m' k' : Nat} {B : Hp} {v : V} (hm : m ≤ m') (hk : k ≤ k') : Dat m k B v → Dat m' k' B v := fun ⟨d, h1, h2, h3⟩ => ⟨d, h1, h2.le hm, h3.le hk⟩
theorem dat_non {m k : Nat} {B : Hp} : Dat m k B .non := ⟨.none, .non, fits_non, sw_non⟩
theorem dat_bl {m k : Nat} {B : Hp} {b : Bool} : Dat m k B (.bl b) := ⟨.bool b, .bl b, fits_bool, sw_bool⟩
theorem dat_int {m k : Nat} {B : Hp} {i : Int} (h0 : -1000000000000 < i) (h1 : i < 1000000000000) (hk : 40 ≤ k) : Dat m k B (.int i) := ⟨.int i, .int i, fits_int, (sw_int' h0 h1).le hk⟩
theorem dat_str {m k : Nat} {B : Hp} {z : Str} (h : PyData.strOk z = true) (hl : z.length ≤ k) : Dat m k B (.str z) := ⟨.str z, .str z, fits_str h, sw_str hl⟩
theorem dats {m k : Nat} {B : Hp} : ∀ {vs : List V}, (∀ v ∈ vs, Dat m k B v) → ∃ ds, Dts B vs ds ∧ (∀ d ∈ ds, Fits m d) ∧ (∀ d ∈ ds, Sw k d)
  | [], _ => ⟨[], .nil, fun _ h => (nomatch h), fun _ h => (nomatch h)⟩
  | v :: vs, h => by
    obtain ⟨d, h1, h2, h3⟩ := h v List.mem_cons_self
    obtain ⟨ds, i1, i2, i3⟩ := dats (vs := vs) fun w hw => h w (List.mem_cons_of_mem _ hw)
    exact ⟨d :: ds, .cons h1 i1, allc h2 i2, allc h3 i3⟩
theorem dat_list {m k n : Nat} {B : Hp} {p : Addr} {vs : List V} (e : B p = some (.lst vs)) (hl : vs.length ≤ n) (hn : n ≤ 100000) (h : ∀ v ∈ vs, Dat m k B v) : Dat (m + 1) (n * (k + 1)) B (.ref p) := by
  obtain ⟨ds, h1, h2, h3⟩ := dats h
  have := h1.len
  exact ⟨.list ds, .lst e h1, fits_list (by omega) h2, sw_list (by omega) h3⟩
theorem dat_tup {m k n : Nat} {B : Hp} {p : Addr} {vs : List V} (e : B p = some (.tup vs)) (hl : vs.length ≤ n) (hn : n ≤ 100000) (h : ∀ v ∈ vs, Dat m k B v) : Dat (m + 1) (n * (k + 1)) B (.ref p) := by
  obtain ⟨ds, h1, h2, h3⟩ := dats h
  have := h1.len
  exact ⟨.tuple ds, .tup e h1, fits_tup (by omega) h2, sw_tup (by omega) h3⟩
theorem str_dat {K : PySem.W.Frag} {B H : Hp} {Q : VK} {x : V} {d : PyData} (s : Same B H) (h : Dt B x d) (hf : Fits 60 d) (hw : Sw 1000000 d) (q : Q (.str (txt d)) H) : gStr K [x] H Q := by
  have hc := hf.all
  have hly : PyData.layable0 d = true := by
    show (d.canLay0 && decide (d.depth ≤ 64) && decide (d.weight ≤ 2 ^ 20)) = true
    rw [hc.2.1, decide_eq_true (show d.depth ≤ 64 by omega), decide_eq_true (by have := hw.1; omega)]; rfl
  have hz := PyData.shown_le_of_layable0 hly hw.2.1
  exact str_data s h hw.2.2 (by rw [sizeLine_eq]; omega) hc.1 (PyData.hasDict_of_canLay d hc.2.1) q
end G

namespace G
open PySem PySem.Spec PyProof.Rows L2 TL RZ

/-! ### texts of any signs -/
def Tx (n : Nat) (z : Str) : Prop := (tl z).length ≤ n ∧ ∀ c ∈ tl z, c < 1114112
theorem Tx.le {n m : Nat} {z : Str} (h : Tx n z) (hm : n ≤ m) : Tx m z := ⟨Nat.le_trans h.1 hm, h.2⟩
theorem Tx.len {n : Nat} {z : Str} (h : Tx n z) : z.length ≤ n := by rw [len_tl]; exact h.1
theorem Tx.ok {n : Nat} {z : Str} (h : Tx n z) : PyData.strOk z = true := by
  unfold PyData.strOk
  rw [← Array.all_toList, List.all_eq_true]
  exact fun c hc => decide_eq_true (h.2 c hc)
theorem Ky.tx {n : Nat} {z : Str} (h : Ky n z) : Tx n z := ⟨h.1, fun c hc => by have := (h.2 c hc).2; omega⟩
theorem Tx.app {n m : Nat} {x y : Str} (h : Tx n x) (h' : Tx m y) : Tx (n + m) (x ++ y) := by
  refine ⟨?_, fun c hc => ?_⟩
  · rw [tl_append, List.length_append]; exact Nat.add_le_add h.1 h'.1
  · rw [tl_append] at hc
    rcases List.mem_append.mp hc with hc | hc
    · exact h.2 c hc
    · exact h'.2 c hc
theorem Tx.cut {n : Nat} {z : Str} (h : Tx n z) (lo hi : Option Int) : Tx n (cutS z lo hi) := by
  refine ⟨?_, fun c hc => ?_⟩
  · rw [tl_cut, List.length_take, List.length_drop]; have := h.1; omega
  · rw [tl_cut] at hc
    exact h.2 c (List.mem_of_mem_drop (List.mem_of_mem_take hc))
theorem tx_lit {s : String} {n : Nat} (h : (tl (Str.ofString s)).length ≤ n ∧ ∀ c ∈ tl (Str.ofString s), c < 1114112) : Tx n (Str.ofString s) := h
theorem Tx.dat {n m k : Nat} {B : Hp} {z : Str} (h : Tx n z) (hk : n ≤ k) : Dat m k B (.str z) := dat_str h.ok (Nat.le_trans h.len hk)
/-! ### what is a key, of any data -/
def isKeyD : PyData → Bool
  | .str z => decide (LtL (tl z))
  | _ => false
theorem keyV_dt {B H : Hp} {v : V} {d : PyData} (s : Same B H) (h : Dt B v d) (hw : Sw 100000 d) : KeyV H v (isKeyD d) := by
  cases d with
  | none => rw [h.n]; exact .inr ⟨rfl, .inl rfl⟩
  | bool b => rw [h.b]; exact .inr ⟨rfl, .inr (.inl ⟨_, rfl⟩)⟩
  | int i => rw [h.i]; exact .inr ⟨rfl, .inr (.inr (.inl ⟨_, rfl⟩))⟩
  | str z => rw [h.s]; exact .inl ⟨z, rfl, hw.1, rfl⟩
  | list ds =>
    obtain ⟨p, xs, rfl, hp, _⟩ := h.list
    exact .inr ⟨rfl, .inr (.inr (.inr (.inl ⟨p, xs, rfl, s _ _ hp⟩)))⟩
  | tuple ds =>
    obtain ⟨p, xs, rfl, hp, _⟩ := h.tuple
    exact .inr ⟨rfl, .inr (.inr (.inr (.inr ⟨p, xs, rfl, s _ _ hp⟩)))⟩
  | dict kvs => cases h
def chrV (c : Nat) : V := .str ⟨#[c]⟩
def badC (l : List Nat) : List Nat := l.filter fun c => decide (c < 97) || decide (122 < c)
theorem badC_nil {l : List Nat} : badC l = [] ↔ LtL l := by
  unfold badC
  rw [List.filter_eq_nil_iff]
  constructor
  · intro h c hc
    have := h c hc
    rw [Bool.or_eq_true, decide_eq_true_eq, decide_eq_true_eq] at this
    omega
  · intro h c hc
    have := h c hc
    rw [Bool.or_eq_true, decide_eq_true_eq, decide_eq_true_eq]
    omega
theorem lit_a : Str.ofString "a" = ⟨#[97]⟩ := by decide +kernel
theorem lit_z : Str.ofString "z" = ⟨#[122]⟩ := by decide +kernel
theorem dts_chr {B : Hp} : ∀ l : List Nat, Dts B (l.map chrV) (l.map fun c => PyData.str ⟨#[c]⟩)
  | [] => .nil
  | c :: l => .cons (.str _) (dts_chr l)
theorem fits_chr {l : List Nat} (h : ∀ c ∈ l, c < 1114112) (hl : l.length ≤ 100000) : Fits 60 (.list (l.map fun c => PyData.str ⟨#[c]⟩)) := fits_map (n := 59) hl fun c hc => fits_str (by
  unfold PyData.strOk
  exact decide_eq_true (h c hc) |> fun e => by simp [h c hc])
end G

namespace G
open PySem PySem.Spec PyProof.Rows L2 TL RZ

/-! ### what is a row, of any data -/
theorem sw_in {k : Nat} : ∀ {ds : List PyData}, PyData.weightAll ds ≤ k → PyData.intsShortAll 13 ds = true → PyData.showableAll ds = true → ds.length ≤ k ∧ ∀ d ∈ ds, Sw k d
  | [], _, _, _ => ⟨Nat.zero_le _, fun _ h => nomatch h⟩
  | d :: ds, h1, h2, h3 => by
    rw [PyData.weightAll] at h1
    rw [PyData.intsShortAll, Bool.and_eq_true] at h2
    rw [PyData.showableAll, Bool.and_eq_true] at h3
    obtain ⟨i1, i2⟩ := sw_in (k := k - 1) (ds := ds) (by omega) h2.2 h3.2
    refine ⟨by rw [List.length_cons]; omega, allc ⟨by omega, h2.1, h3.1⟩ fun e he => (i2 e he).le (by omega)⟩
theorem Sw.mem {k : Nat} {ds : List PyData} (h : Sw k (.list ds)) : ds.length ≤ k ∧ ∀ d ∈ ds, Sw k d := by
  obtain ⟨h1, h2, h3⟩ := h
  rw [PyData.weight] at h1
  rw [PyData.intsShort] at h2
  rw [PyData.showable] at h3
  exact sw_in h1 h2 h3
def isStrD : PyData → Bool
  | .str _ => true
  | _ => false
def strD : PyData → Str
  | .str z => z
  | _ => Str.ofString ""
open Classical in
noncomputable def isRowD : PyData → Bool
  | .list ds => ds.all isKeyD && decide (Row (ds.map strD))
  | _ => false
open Classical in
theorem isRowD_list {ds : List PyData} {b : Bool} (h : b = true ↔ Row (ds.map strD)) : isRowD (.list ds) = (ds.all isKeyD && b) := by
  show (ds.all isKeyD && decide (Row (ds.map strD))) = _
  cases b with
  | true => rw [decide_eq_true (h.mp rfl)]
  | false => rw [decide_eq_false fun z => nomatch h.mpr z]
theorem key_str {d : PyData} (h : isKeyD d = true) : isStrD d = true := by
  cases d <;> first | rfl | (cases h)
theorem strs_dts {B : Hp} : ∀ {vs : List V} {ds : List PyData}, Dts B vs ds → ds.all isStrD = true → vs = (ds.map strD).map V.str
  | _, _, .nil, _ => rfl
  | _, _, .cons (d := d) h t, e => by
    rw [List.all_cons, Bool.and_eq_true] at e
    rw [strs_dts t e.2]
    cases d with
    | str z => rw [h.s]; rfl
    | _ => cases e.1
theorem keys_all : ∀ {ds : List PyData}, ds.all isStrD = true → (ds.all isKeyD = decide (LtL ((ds.map strD).map tl).flatten))
  | [], _ => (decide_eq_true (fun _ h => nomatch h)).symm
  | d :: ds, e => by
    rw [List.all_cons, Bool.and_eq_true] at e
    rw [List.all_cons, keys_all e.2]
    cases d with
    | str z =>
      show (decide (LtL (tl z)) && decide _) = decide _
      rw [← Bool.decide_and]
      refine decide_eq_decide.mpr ?_
      rw [List.map_cons, List.map_cons, List.flatten_cons]
      show LtL (tl z) ∧ _ ↔ LtL (tl z ++ _)
      constructor
      · rintro ⟨h1, h2⟩ c hc
        rcases List.mem_append.mp hc with hc | hc
        · exact h1 c hc
        · exact h2 c hc
      · exact fun h => ⟨fun c hc => h c (List.mem_append_left _ hc), fun c hc => h c (List.mem_append_right _ hc)⟩
    | _ => cases e.1
theorem isi_str_dt {K : PySem.W.Frag} {B H : Hp} {Q : VK} {x : V} {d : PyData} (s : Same B H) (h : Dt B x d) (q : Q (.bl (isStrD d)) H) : gIsi K [x, .ty "str"] H Q := by
  cases d with
  | none => rw [h.n]; exact isi_non_str q
  | bool b => rw [h.b]; exact isi_bl_str q
  | int i => rw [h.i]; exact isi_int_str q
  | str z => rw [h.s]; exact isi_str_str q
  | list ds =>
    obtain ⟨p, xs, rfl, hp, _⟩ := h.list
    exact isi_lst_str (s _ _ hp) q
  | tuple ds =>
    obtain ⟨p, xs, rfl, hp, _⟩ := h.tuple
    exact isi_tup_str (s _ _ hp) q
  | dict kvs => cases h
theorem sum_dts {k : Nat} : ∀ {ds : List PyData}, PyData.weightAll ds ≤ k → ds.all isStrD = true → ((ds.map strD).map (·.length)).sum ≤ k
  | [], _, _ => Nat.zero_le _
  | d :: ds, h1, e => by
    rw [PyData.weightAll] at h1
    rw [List.all_cons, Bool.and_eq_true] at e
    have := sum_dts (k := k - d.weight) (ds := ds) (by omega) e.2
    rw [List.map_cons, List.map_cons, List.sum_cons]
    cases d with
    | str z =>
      rw [PyData.weight] at h1 this
      show z.length + _ ≤ k
      have hz : z.length = z.cps.size := rfl
      omega
    | _ => cases e.1
theorem sw_appA : ∀ (a b : List PyData), PyData.weightAll (a ++ b) = PyData.weightAll a + PyData.weightAll b ∧ PyData.intsShortAll 13 (a ++ b) = (PyData.intsShortAll 13 a && PyData.intsShortAll 13 b) ∧ PyData.showableAll (a ++ b) = (PyData.showableAll a && PyData.showableAll b)
  | [], b => ⟨by rw [List.nil_append, show PyData.weightAll [] = 0 from rfl, Nat.zero_add], by rw [List.nil_append, show PyData.intsShortAll 13 [] = true from rfl, Bool.true_and], by rw [List.nil_append, show PyData.showableAll [] = true from rfl, Bool.true_and]⟩
  | d :: a, b => by
    obtain ⟨i1, i2, i3⟩ := sw_appA a b
    rw [List.cons_append]
    refine ⟨?_, ?_, ?_⟩
    · rw [PyData.weightAll, PyData.weightAll, i1]; omega
    · rw [PyData.intsShortAll, PyData.intsShortAll, i2, Bool.and_assoc]
    · rw [PyData.showableAll, PyData.showableAll, i3, Bool.and_assoc]
theorem sw_app {j k : Nat} {a b : List PyData} (h : Sw j (.list a)) (h' : Sw k (.list b)) : Sw (j + k) (.list (a ++ b)) := by
  obtain ⟨i1, i2, i3⟩ := sw_appA a b
  obtain ⟨h1, h2, h3⟩ := h
  obtain ⟨g1, g2, g3⟩ := h'
  rw [PyData.weight] at h1 g1
  rw [PyData.intsShort] at h2 g2
  rw [PyData.showable] at h3 g3
  exact ⟨by rw [PyData.weight, i1]; omega, by rw [PyData.intsShort, i2, h2, g2]; rfl, by rw [PyData.showable, i3, h3, g3]; rfl⟩
/-- a list of texts is data -/
theorem dat_strs {B : Hp} {p : Addr} {ys : List Str} {n k : Nat} (e : B p = some (.lst (ys.map V.str))) (hl : ys.length ≤ n) (hn : n ≤ 100000) (h : ∀ y ∈ ys, Ky k y) : Dat 1 (n * (k + 1)) B (.ref p) :=
  dat_list e (by rw [List.length_map]; exact hl) hn fun v hv => by
    obtain ⟨y, hy, rfl⟩ := List.mem_map.mp hv
    exact (h y hy).tx.dat (Nat.le_refl _)
theorem dat_strsT {B : Hp} {p : Addr} {ys : List Str} {n k : Nat} (e : B p = some (.tup (ys.map V.str))) (hl : ys.length ≤ n) (hn : n ≤ 100000) (h : ∀ y ∈ ys, Ky k y) : Dat 1 (n * (k + 1)) B (.ref p) :=
  dat_tup e (by rw [List.length_map]; exact hl) hn fun v hv => by
    obtain ⟨y, hy, rfl⟩ := List.mem_map.mp hv
    exact (h y hy).tx.dat (Nat.le_refl _)
/-- which neighbours rise -/
def adjB : List Str → List Bool
  | a :: b :: r => decide (-lk b a < 1) :: adjB (b :: r)
  | _ => []
theorem adjB_len : ∀ ys : List Str, (adjB ys).length = ys.length - 1
  | [] => rfl
  | [_] => rfl
  | _ :: b :: r => by rw [adjB, List.length_cons, adjB_len (b :: r)]; rfl
theorem adjB_at : ∀ {ys : List Str} {i : Nat} {a b : Str}, ys[i]? = some a → ys[i + 1]? = some b → (adjB ys)[i]? = some (decide (-lk b a < 1))
  | [], _, _, _, h, _ => by simp at h
  | [_], 0, _, _, _, h => by simp at h
  | [_], i + 1, _, _, h, _ => by simp at h
  | x :: y :: r, 0, a, b, h1, h2 => by
    rw [← Option.some.inj h1, ← Option.some.inj h2]; rfl
  | x :: y :: r, i + 1, a, b, h1, h2 => by
    rw [adjB, List.getElem?_cons_succ]
    exact adjB_at (ys := y :: r) (by simpa using h1) (by simpa using h2)
theorem adjB_all : ∀ ys : List Str, (adjB ys).all id = true ↔ Row ys
  | [] => ⟨fun _ => List.Pairwise.nil, fun _ => rfl⟩
  | [x] => ⟨fun _ => List.pairwise_singleton _ _, fun _ => rfl⟩
  | x :: y :: r => by
    rw [adjB, List.all_cons, Bool.and_eq_true, adjB_all (y :: r)]
    have h0 : id (decide (-lk y x < 1)) = true ↔ lk x y ≤ 0 := by
      rw [id, decide_eq_true_eq, lk_anti x y]; omega
    rw [h0]
    constructor
    · rintro ⟨h1, h2⟩
      refine List.pairwise_cons.mpr ⟨fun z hz => ?_, h2⟩
      rcases List.mem_cons.mp hz with rfl | hz
      · exact h1
      · exact lk_trans h1 ((List.pairwise_cons.mp h2).1 z hz)
    · intro h
      exact ⟨(List.pairwise_cons.mp h).1 y List.mem_cons_self, (List.pairwise_cons.mp h).2⟩
end G

namespace G
open PySem PySem.Spec PyProof.Rows L2 TL RZ

/-! ### list(range(..)) -/
def rgI (a b : Int) : List Int := (List.range (b - a).toNat).map fun i => a + (i : Nat)
theorem rgV_eq (a b : Int) : rgV a b = (rgI a b).map V.int := by unfold rgV rgI; rw [List.map_map]; rfl
theorem rgI_len (a b : Int) : (rgI a b).length = (b - a).toNat := by unfold rgI; rw [List.length_map, List.length_range]
section
variable {σ : L2.St} {H : Hp} {Q : VK} {ta tb : TE}
def Lr1 (Q : VK) (x : V) (H1 : Hp) : Prop := ∃ n, x = .int n ∧ (RgOk 0 n ∧ ∀ q, H1 q = none → Q (.ref q) (upd H1 q (.lst (rgV 0 n))))
theorem g_lrg1 (h : ta σ H (Lr1 Q)) : tLstRg (tRg1 ta) σ H Q := h
theorem lrg1 {n : Int} (h0 : 0 ≤ n) (h1 : n ≤ 16777216) (q : AtNew Q (.lst ((rgI 0 n).map V.int)) H) : Lr1 Q (.int n) H := ⟨n, rfl, .of_le (by decide) h1 (by decide) h0, fun p hp => by rw [rgV_eq]; exact q p hp⟩
def Lr2 (tb : TE) (σ : L2.St) (Q : VK) (x : V) (H1 : Hp) : Prop := tb σ H1 fun y H2 => ∃ i j, x = .int i ∧ y = .int j ∧ (RgOk i j ∧ ∀ q, H2 q = none → Q (.ref q) (upd H2 q (.lst (rgV i j))))
theorem g_lrg2 (h : ta σ H (Lr2 tb σ Q)) : tLstRg (tRg2 ta tb) σ H Q := h
def Lr3 (Q : VK) (x : V) (y : V) (H2 : Hp) : Prop := ∃ i j, x = .int i ∧ y = .int j ∧ (RgOk i j ∧ ∀ q, H2 q = none → Q (.ref q) (upd H2 q (.lst (rgV i j))))
theorem lrg2 {x : V} (h : tb σ H (Lr3 Q x)) : Lr2 tb σ Q x H := h
theorem lrg3 {i j : Int} (h0 : 0 ≤ i) (h1 : i ≤ 16777216) (h2 : 0 ≤ j) (h3 : j ≤ 16777216) (q : AtNew Q (.lst ((rgI i j).map V.int)) H) : Lr3 Q (.int i) (.int j) H := ⟨i, j, rfl, rfl, .of_le h0 h3 h1 h2, fun p hp => by rw [rgV_eq]; exact q p hp⟩
end
/-! ### xs.remove(y), any data -/
section
variable {X : Cx}
def rRemD (K : PySem.W.Frag) : V → List V → Hp → VK → Prop := fun x xs H Q => ∃ (l : Addr) (vs : List V) (ds : List PyData) (v : V) (d : PyData) (j : Nat), x = .ref l ∧ xs = [v] ∧ H l = some (.lst vs) ∧ DpAll K H vs ds ∧ Dp K H v d ∧
  PyData.plainAll ds = true ∧ d.plain = true ∧ d.depth ≤ 32 ∧ SeqAt.dataPlace ds d = some j ∧ Q .non (upd H l (.lst (vs.eraseIdx j)))
theorem mt_removeD (hu : X.A.units + 64 < cLine) : MtM X "list.remove" (rRemD X.K) := by
  intro pins s σ H x xs v us Q I rx rxs h
  obtain ⟨l, vs, ds, y, d, j, rfl, rfl, hH, hds, hd, hp1, hp2, hdep, hj, q⟩ := h
  cases rx
  obtain ⟨u, rfl, ru⟩ := rxs.one
  obtain ⟨z, its, n, r, hl, e⟩ := I.lstM hH
  obtain ⟨as, ra⟩ := Dp.readsAll I _ _ _ hds r
  obtain ⟨bs, rb⟩ := Dp.reads I _ _ _ hd ru
  refine SeqAt.remove_list_data (vs := its.toArray) ⟨_, e, rfl, n, rfl⟩ (by rw [List.toList_toArray]; exact ra) rb hp1 hp2 (by omega) hj (by rw [List.size_toArray]; omega) ?_
  have rr := r.eraseIdx j
  refine ⟨.non, _, I.lset (its' := its.eraseIdx j) (t' := s.toks) hH e ?_ rr ?_, rfl, q⟩
  · show its.toArray.eraseIdxIfInBounds j = (its.eraseIdx j).toArray
    rw [List.eraseIdxIfInBounds_toArray]
  · exact Nat.le_trans (List.length_eraseIdx_le _ _) z
def gRem (K : PySem.W.Frag) : V → List V → Hp → VK → Prop := fun x xs H Q => rRemI x xs H Q ∨ rRemD K x xs H Q
theorem oRemove {K : PySem.W.Frag} (hu : X.A.units + 64 < cLine) (hK : X.K = K := by rfl) : MtM X "list.remove" (gRem K) := by
  subst hK
  intro pins s σ H x xs v us Q I rx rxs h
  rcases h with h | h
  · exact mt_remove pins s σ H x xs v us Q I rx rxs h
  · exact mt_removeD hu pins s σ H x xs v us Q I rx rxs h
end
/-! ### what has been made is known from now on -/
open Classical in
noncomputable def knows (P : Addr → Prop) (B H : Hp) : Hp := fun q => if P q then H q else B q
theorem knows_in {P : Addr → Prop} {B H : Hp} {q : Addr} (h : P q) : knows P B H q = H q := if_pos h
theorem knows_out {P : Addr → Prop} {B H : Hp} {q : Addr} (h : ¬ P q) : knows P B H q = B q := if_neg h
section
variable {a : Addr} {B0 H0 B H : Hp} {n : Nat} {P : Addr → Prop}
theorem same_knows (hb : ∀ q, P q → B q = none) : Same B (knows P B H) := fun q u e => by
  by_cases h : P q
  · rw [hb q h] at e; cases e
  · rw [knows_out h]; exact e
theorem knows_sub (S : Same B H) : Same (knows P B H) H := fun q u e => by
  by_cases h : P q
  · rw [knows_in h] at e; exact e
  · rw [knows_out h] at e; exact S q u e
theorem St.kno (S : St a B0 H0 n B H) (h : ∀ q, P q → H0 q = none ∧ B q = none ∧ q ≠ a) : St a B0 H0 n (knows P B H) H :=
  ⟨S.kn.trans (same_knows fun q hq => (h q hq).2.1), knows_sub S.sub, by rw [knows_out fun z => (h a z).2.2 rfl]; exact S.na, S.left, S.oth, fun q hq => by
    rw [knows_out fun z => hq (h q z).1]; exact S.fr q hq⟩
theorem Pu.kno (S : Pu B0 H0 B H) (h : ∀ q, P q → H0 q = none ∧ B q = none) : Pu B0 H0 (knows P B H) H :=
  ⟨S.kn.trans (same_knows fun q hq => (h q hq).2), knows_sub S.sub, S.old, fun q hq => by
    rw [knows_out fun z => hq (h q z).1]; exact S.fr q hq⟩
end
/-! ### lists of lists of numbers, each at its own new place -/
inductive Lis (H0 H : Hp) : List V → List (List Int) → Prop
  | nil : Lis H0 H [] []
  | cons {p : Addr} {vs : List V} {ns : List Int} {nss : List (List Int)} : H0 p = none → H p = some (.lst (ns.map V.int)) → V.ref p ∉ vs → Lis H0 H vs nss → Lis H0 H (.ref p :: vs) (ns :: nss)
section
variable {H0 H H' : Hp}
theorem Lis.mono (s : Same H H') : ∀ {vs nss}, Lis H0 H vs nss → Lis H0 H' vs nss
  | _, _, .nil => .nil
  | _, _, .cons h1 h2 h3 t => .cons h1 (s _ _ h2) h3 (t.mono s)
theorem Lis.base {H1 : Hp} (s : ∀ q, H0 q = none → H1 q = none) : ∀ {vs nss}, Lis H0 H vs nss → Lis H1 H vs nss
  | _, _, .nil => .nil
  | _, _, .cons h1 h2 h3 t => .cons (s _ h1) h2 h3 (t.base s)
theorem Lis.len : ∀ {vs nss}, Lis H0 H vs nss → vs.length = nss.length
  | _, _, .nil => rfl
  | _, _, .cons _ _ _ t => by rw [List.length_cons, List.length_cons, t.len]
theorem Lis.at : ∀ {vs nss} {i : Nat} {v : V}, Lis H0 H vs nss → vs[i]? = some v → ∃ (p : Addr) (ns : List Int), nss[i]? = some ns ∧ v = .ref p ∧ H0 p = none ∧ H p = some (.lst (ns.map V.int))
  | _, _, _, _, .nil, h => by simp at h
  | _, _, 0, _, .cons h1 h2 _ _, e => by
    have e1 := Option.some.inj e
    rw [← e1]; exact ⟨_, _, rfl, rfl, h1, h2⟩
  | _, _, i + 1, _, .cons _ _ _ t, e => by
    obtain ⟨p, ns, h1, h2⟩ := t.at (i := i) (by simpa using e)
    exact ⟨p, ns, by simpa using h1, h2⟩
theorem Lis.at' {vs nss} {i : Nat} {ns : List Int} (h : Lis H0 H vs nss) (e : nss[i]? = some ns) : ∃ p : Addr, vs[i]? = some (.ref p) ∧ H0 p = none ∧ H p = some (.lst (ns.map V.int)) := by
  have hi : i < vs.length := by rw [h.len]; exact (List.getElem?_eq_some_iff.mp e).1
  obtain ⟨p, ns', h1, h2, h3, h4⟩ := h.at (List.getElem?_eq_getElem hi)
  rw [e] at h1
  cases h1
  exact ⟨p, by rw [← h2]; exact List.getElem?_eq_getElem hi, h3, h4⟩
theorem Lis.mem {v : V} {vs nss} (h : Lis H0 H vs nss) (hv : v ∈ vs) : ∃ (p : Addr) (ns : List Int), v = .ref p ∧ H0 p = none ∧ H p = some (.lst (ns.map V.int)) ∧ ns ∈ nss := by
  obtain ⟨i, hi⟩ := List.getElem?_of_mem hv
  obtain ⟨p, ns, h1, h2, h3, h4⟩ := h.at hi
  exact ⟨p, ns, h2, h3, h4, List.mem_of_getElem? h1⟩
theorem Lis.put {q : Addr} {o : HO} : ∀ {vs nss}, Lis H0 H vs nss → V.ref q ∉ vs → Lis H0 (upd H q o) vs nss
  | _, _, .nil, _ => .nil
  | _, _, .cons h1 h2 h3 t, hq => .cons h1 (by rw [upd_ne (fun z => hq (by rw [z]; exact List.mem_cons_self))]; exact h2) h3 (t.put fun z => hq (List.mem_cons_of_mem _ z))
theorem Lis.snoc {p : Addr} {ns : List Int} (h1 : H0 p = none) (h2 : H p = some (.lst (ns.map V.int))) : ∀ {vs nss}, Lis H0 H vs nss → V.ref p ∉ vs → Lis H0 H (vs ++ [.ref p]) (nss ++ [ns])
  | _, _, .nil, _ => .cons h1 h2 (by simp) .nil
  | _, _, .cons k1 k2 k3 t, hq => .cons k1 k2 (fun z => by
      rcases List.mem_append.mp z with z | z
      · exact k3 z
      · rw [List.mem_singleton] at z
        exact hq (by rw [← z]; exact List.mem_cons_self)) (t.snoc h1 h2 fun z => hq (List.mem_cons_of_mem _ z))
theorem Lis.set {q : Addr} {ms : List Int} : ∀ {vs nss} {i : Nat}, Lis H0 H vs nss → vs[i]? = some (.ref q) → Lis H0 (upd H q (.lst (ms.map V.int))) vs (nss.set i ms)
  | _, _, _, .nil, h => by simp at h
  | _, _, 0, .cons k1 k2 k3 t, h => by
    cases h
    exact .cons k1 upd_same k3 (t.put k3)
  | _, _, i + 1, .cons k1 k2 k3 t, h => by
    have hi : _ := show _ = some (V.ref q) by simpa using h
    exact .cons k1 (by rw [upd_ne (fun z => k3 (by rw [z]; exact List.mem_of_getElem? hi))]; exact k2) k3 (t.set hi)
theorem Lis.fresh {vs nss} {q : Addr} (h : Lis H0 H vs nss) (hq : H q = none) : V.ref q ∉ vs := fun hm => by
  obtain ⟨p, _, e, _, e2, _⟩ := h.mem hm
  cases e
  rw [hq] at e2; cases e2
def encLL (nss : List (List Int)) : PyData := .list (nss.map fun ns => .list (ns.map PyData.int))
theorem Lis.dts : ∀ {vs nss}, Lis H0 H vs nss → Dts H vs (nss.map fun ns => .list (ns.map PyData.int))
  | _, _, .nil => .nil
  | _, _, .cons _ h2 _ t => .cons (.lst h2 (Dts.ints _)) t.dts
theorem Lis.sub {B : Hp} : ∀ {vs nss}, Lis H0 H vs nss → (∀ q, V.ref q ∈ vs → B q = H q) → Lis H0 B vs nss
  | _, _, .nil, _ => .nil
  | _, _, .cons h1 h2 h3 t, hb => .cons h1 ((hb _ List.mem_cons_self).trans h2) h3 (t.sub fun q hq => hb q (List.mem_cons_of_mem _ hq))
end
/-- a def that gives a list of lists of numbers, all of them new -/
def spLis {T : Type} (pre : Hp → List V → T → Prop) (f : T → List (List Int)) : Sp := fun vs H Q _ => ∃ (B : Hp) (x : T), Same B H ∧ pre B vs x ∧ ∀ r ws H', Same H H' → H r = none → H' r = some (.lst ws) → V.ref r ∉ ws → Lis H H' ws (f x) → Q (.ref r) H'
section
variable {T : Type} {a : Addr} {B0 H0 B H : Hp} {n : Nat} {pre : Hp → List V → T → Prop} {f : T → List (List Int)} {vs : List V} {Q : VK} {E : XK}
theorem St.lis (S : St a B0 H0 n B H) (x : T) (hp : pre B vs x)
    (q : ∀ r ws H', St a B0 H0 n B H' → Oth a B H B H' → Same H H' → H r = none → H' r = some (.lst ws) → V.ref r ∉ ws → Lis H H' ws (f x) → Q (.ref r) H') : spLis pre f vs H Q E :=
  ⟨B, x, S.sub, hp, fun r ws H' s h1 h2 h3 h4 => q r ws H' (S.pure s) ⟨fun q o _ e => s q o e, fun _ _ => rfl⟩ s h1 h2 h3 h4⟩
/-- the same, known from now on -/
theorem St.lisK (S : St a B0 H0 n B H) (x : T) (hp : pre B vs x)
    (q : ∀ v B' H', St a B0 H0 n B' H' → Oth a B H B' H' → Same B B' → Dt B' v (encLL (f x)) → Q v H') : spLis pre f vs H Q E :=
  ⟨B, x, S.sub, hp, fun r ws H' s h1 h2 h3 h4 => by
    have hb : ∀ q, (q = r ∨ V.ref q ∈ ws) → H0 q = none ∧ B q = none ∧ q ≠ a := fun q hq => by
      have hq0 : H q = none := by
        rcases hq with rfl | hq
        · exact h1
        · obtain ⟨p, _, e, h, _⟩ := h4.mem hq
          cases e; exact h
      exact ⟨S.free0 hq0, S.free hq0, S.nea hq0⟩
    have S' := (S.pure s).kno hb
    refine q (.ref r) _ H' S' ⟨fun q o _ e => s q o e, fun q hq => knows_out fun z => hq ?_⟩ (same_knows fun q hq => (hb q hq).2.1) (.lst (by rw [knows_in (.inl rfl)]; exact h2) (h4.sub fun q hq => knows_in (.inr hq)).dts)
    rcases z with rfl | z
    · exact h1
    · obtain ⟨p, _, e, h, _⟩ := h4.mem z
      cases e; exact h⟩
theorem Pu.lisK (S : Pu B0 H0 B H) (x : T) (hp : pre B vs x)
    (q : ∀ v B' H', Pu B0 H0 B' H' → Old B H B' H' → Same B B' → Dt B' v (encLL (f x)) → Q v H') : spLis pre f vs H Q E :=
  ⟨B, x, S.sub, hp, fun r ws H' s h1 h2 h3 h4 => by
    have hb0 : ∀ q, (q = r ∨ V.ref q ∈ ws) → H q = none := fun q hq => by
      rcases hq with rfl | hq
      · exact h1
      · obtain ⟨p, _, e, h, _⟩ := h4.mem hq
        cases e; exact h
    have hb : ∀ q, (q = r ∨ V.ref q ∈ ws) → H0 q = none ∧ B q = none := fun q hq => ⟨S.free0 (hb0 q hq), S.free (hb0 q hq)⟩
    have S' := (S.pure s).kno hb
    exact q (.ref r) _ H' S' ⟨s, fun q hq => knows_out fun z => hq (hb0 q z)⟩ (same_knows fun q hq => (hb q hq).2) (.lst (by rw [knows_in (.inl rfl)]; exact h2) (h4.sub fun q hq => knows_in (.inr hq)).dts)⟩
end
end G

namespace G
open PySem PySem.Spec PyProof.Rows L2 TL RZ

/-! ### stretches -/
theorem atI_end {xs : List V} {v : V} (h : xs[xs.length - 1]? = some v) : atI xs (-1) = some v := by
  have hl : xs.length - 1 < xs.length := (List.getElem?_eq_some_iff.mp h).1
  unfold atI ixN
  rw [if_neg (by decide), if_pos (by omega)]
  show xs[((xs.length : Int) + -1).toNat]? = some v
  rw [show ((xs.length : Int) + -1).toNat = xs.length - 1 by omega]; exact h
theorem atI_last {xs : List V} {v : V} : atI (xs ++ [v]) (-1) = some v := atI_end (by
  rw [List.length_append, List.length_cons, List.length_nil, Nat.add_sub_cancel, List.getElem?_append_right (Nat.le_refl _), Nat.sub_self]; rfl)
/-- n is put behind the list at place k -/
def apF (F : List (List Int)) (k : Nat) (n : Int) : List (List Int) := F.set k ((F.getD k []) ++ [n])
theorem apF_len (F : List (List Int)) (k : Nat) (n : Int) : (apF F k n).length = F.length := List.length_set ..
theorem apF_last (F : List (List Int)) (g : List Int) (n : Int) : apF (F ++ [g]) F.length n = F ++ [g ++ [n]] := by
  unfold apF
  rw [List.set_append_right _ _ (Nat.le_refl _), Nat.sub_self, List.getD_eq_getElem?_getD, List.getElem?_append_right (Nat.le_refl _), Nat.sub_self]; rfl
def stF (zs : List Str) : Nat → List (List Int)
  | 0 => []
  | i + 1 => if i = 0 ∨ lk (zs.getD i (Str.ofString "")) (zs.getD (i - 1) (Str.ofString "")) = -1 then stF zs i ++ [[(i : Int)]] else apF (stF zs i) ((stF zs i).length - 1) i
section
variable {zs : List Str} {i : Nat}
theorem stF_new (h : i = 0 ∨ lk (zs.getD i (Str.ofString "")) (zs.getD (i - 1) (Str.ofString "")) = -1) : stF zs (i + 1) = stF zs i ++ [[(i : Int)]] := if_pos h
theorem stF_old (h0 : i ≠ 0) (h : ¬ lk (zs.getD i (Str.ofString "")) (zs.getD (i - 1) (Str.ofString "")) = -1) : stF zs (i + 1) = apF (stF zs i) ((stF zs i).length - 1) i := if_neg fun z => z.elim h0 h
theorem stF_len (zs : List Str) : ∀ i, (stF zs i).length ≤ i
  | 0 => Nat.le_refl _
  | i + 1 => by
    have ih := stF_len zs i
    unfold stF
    split
    · rw [List.length_append]; exact Nat.succ_le_succ ih
    · rw [apF_len]; omega
theorem stF_ne (zs : List Str) : ∀ {i : Nat}, 0 < i → stF zs i ≠ []
  | 0, h => absurd h (Nat.lt_irrefl 0)
  | i + 1, _ => by
    unfold stF
    split
    · simp
    · rename_i c
      intro z
      have h0 : (apF (stF zs i) ((stF zs i).length - 1) i).length = 0 := by rw [z]; rfl
      rw [apF_len] at h0
      exact stF_ne zs (i := i) (by omega) (List.eq_nil_of_length_eq_zero h0)
theorem mem_set_le {P : List Int → Prop} {F : List (List Int)} {k : Nat} {g : List Int} (h : ∀ ns ∈ F, P ns) (hg : P g) : ∀ ns ∈ F.set k g, P ns := fun ns hn => by
  rcases List.mem_or_eq_of_mem_set hn with z | z
  · exact h ns z
  · rw [z]; exact hg
theorem stF_le (zs : List Str) : ∀ i, ∀ ns ∈ stF zs i, ns.length ≤ i
  | 0, _, h => nomatch h
  | i + 1, ns, h => by
    have ih := stF_le zs i
    unfold stF at h
    split at h
    · rcases List.mem_append.mp h with h | h
      · exact Nat.le_succ_of_le (ih ns h)
      · rw [List.mem_singleton.mp h]; exact Nat.succ_le_succ (Nat.zero_le _)
    · refine mem_set_le (P := fun ns => ns.length ≤ i + 1) (fun ns hn => Nat.le_succ_of_le (ih ns hn)) ?_ ns h
      rw [List.length_append, List.getD_eq_getElem?_getD]
      refine Nat.succ_le_succ ?_
      cases e : (stF zs i)[(stF zs i).length - 1]? with
      | none => exact Nat.zero_le _
      | some g => exact ih g (List.mem_of_getElem? e)
end
/-! the same by cuts -/
def brkF (zs : List Str) : Nat → List Int
  | 0 => []
  | i + 1 => if lk (zs.getD (i + 1) (Str.ofString "")) (zs.getD i (Str.ofString "")) = -1 then brkF zs i ++ [((i + 1 : Nat) : Int)] else brkF zs i
section
variable {zs : List Str} {i : Nat}
theorem brkF_y (h : lk (zs.getD (i + 1) (Str.ofString "")) (zs.getD i (Str.ofString "")) = -1) : brkF zs (i + 1) = brkF zs i ++ [((i + 1 : Nat) : Int)] := if_pos h
theorem brkF_n (h : ¬ lk (zs.getD (i + 1) (Str.ofString "")) (zs.getD i (Str.ofString "")) = -1) : brkF zs (i + 1) = brkF zs i := if_neg h
theorem brkF_len (zs : List Str) : ∀ i, (brkF zs i).length ≤ i
  | 0 => Nat.le_refl _
  | i + 1 => by
    have ih := brkF_len zs i
    unfold brkF
    split
    · rw [List.length_append]; exact Nat.succ_le_succ ih
    · omega
theorem brkF_ok (zs : List Str) : ∀ i, ∀ k ∈ brkF zs i, 0 ≤ k ∧ k ≤ i
  | 0, _, h => nomatch h
  | i + 1, k, h => by
    have ih := brkF_ok zs i
    unfold brkF at h
    split at h
    · rcases List.mem_append.mp h with h | h
      · have := ih k h; omega
      · rw [List.mem_singleton.mp h]; omega
    · have := ih k h; omega
end
def cutsF (zs : List Str) : List Int := 0 :: brkF zs (zs.length - 1) ++ [(zs.length : Int)]
theorem cutsF_ok {zs : List Str} {k : Int} (h : k ∈ cutsF zs) : 0 ≤ k ∧ k ≤ zs.length := by
  unfold cutsF at h
  rcases List.mem_append.mp h with h | h
  · rcases List.mem_cons.mp h with h | h
    · omega
    · have := brkF_ok _ _ k h; omega
  · rw [List.mem_singleton.mp h]; omega
def prsF : List Int → List (List Int)
  | b :: e :: r => (if b < e then [rgI b e] else []) ++ prsF (e :: r)
  | _ => []
theorem prsF_1 : ∀ {l : List Int}, l.length ≤ 1 → prsF l = []
  | [], _ => rfl
  | [_], _ => rfl
  | _ :: _ :: _, h => by simp at h
theorem prsF_app : ∀ (l : List Int) (b e : Int), prsF (l ++ [b] ++ [e]) = prsF (l ++ [b]) ++ (if b < e then [rgI b e] else [])
  | [], b, e => by
    show (if b < e then [rgI b e] else []) ++ [] = [] ++ _
    rw [List.append_nil, List.nil_append]
  | [x], b, e => by
    show (if x < b then [rgI x b] else []) ++ ((if b < e then [rgI b e] else []) ++ []) = ((if x < b then [rgI x b] else []) ++ []) ++ _
    rw [List.append_nil, List.append_nil]
  | x :: y :: l, b, e => by
    have ih := prsF_app (y :: l) b e
    show (if x < y then [rgI x y] else []) ++ prsF (y :: l ++ [b] ++ [e]) = ((if x < y then [rgI x y] else []) ++ prsF (y :: l ++ [b])) ++ _
    rw [ih, List.append_assoc]
theorem prsF_step {cs : List Int} {i : Nat} {b e : Int} (hb : cs[i]? = some b) (he : cs[i + 1]? = some e) : prsF (cs.take (i + 1 + 1)) = prsF (cs.take (i + 1)) ++ (if b < e then [rgI b e] else []) := by
  have h1 : cs.take (i + 1) = cs.take i ++ [b] := by rw [List.take_succ, hb]; rfl
  rw [List.take_succ, he, h1]
  exact prsF_app _ b e
theorem rgI_one (n : Nat) : rgI (n : Int) ((n + 1 : Nat) : Int) = [(n : Int)] := by
  unfold rgI
  rw [show (((n + 1 : Nat) : Int) - (n : Int)).toNat = 1 by omega]
  show [(n : Int) + ((0 : Nat) : Int)] = _
  rw [show (n : Int) + ((0 : Nat) : Int) = n by omega]
theorem rgI_succ {b : Int} {n : Nat} (h : b ≤ n) : rgI b ((n + 1 : Nat) : Int) = rgI b n ++ [(n : Int)] := by
  unfold rgI
  rw [show (((n + 1 : Nat) : Int) - b).toNat = ((n : Int) - b).toNat + 1 by omega, List.range_succ, List.map_append]
  congr 1
  show [b + ((((n : Int) - b).toNat : Nat) : Int)] = _
  rw [show b + ((((n : Int) - b).toNat : Nat) : Int) = n by omega]
theorem stF_prs' (zs : List Str) : ∀ i, stF zs (i + 1) = prsF ((0 :: brkF zs i) ++ [((i + 1 : Nat) : Int)])
  | 0 => by
    rw [stF_new (.inl rfl)]
    show [] ++ [[((0 : Nat) : Int)]] = (if (0 : Int) < ((0 + 1 : Nat) : Int) then [rgI 0 ((0 + 1 : Nat) : Int)] else []) ++ []
    rw [if_pos (by decide), List.append_nil, show (0 : Int) = ((0 : Nat) : Int) from rfl, rgI_one]; rfl
  | i + 1 => by
    have ih := stF_prs' zs i
    obtain ⟨l, c, hlc⟩ : ∃ l c, (0 :: brkF zs i : List Int) = l ++ [c] := by
      rcases List.eq_nil_or_concat (0 :: brkF zs i : List Int) with h | ⟨l, c, h⟩
      · cases h
      · exact ⟨l, c, by rw [h, List.concat_eq_append]⟩
    have hc : c ≤ i := by
      have hm : c ∈ (0 :: brkF zs i : List Int) := by rw [hlc]; simp
      rcases List.mem_cons.mp hm with h | h
      · omega
      · exact (brkF_ok zs i c h).2
    have hci : c < ((i + 1 : Nat) : Int) := by omega
    rw [hlc, prsF_app, if_pos hci] at ih
    by_cases h : lk (zs.getD (i + 1) (Str.ofString "")) (zs.getD i (Str.ofString "")) = -1
    · rw [stF_new (.inr h), brkF_y h, ← List.cons_append, hlc, prsF_app, if_pos (by omega), prsF_app, if_pos hci, ih, rgI_one]
    · rw [stF_old (Nat.succ_ne_zero i) h, brkF_n h, hlc, prsF_app, if_pos (by omega), ih, List.length_append, List.length_cons, List.length_nil, Nat.add_sub_cancel, apF_last, show rgI c ((i + 1 + 1 : Nat) : Int) = rgI c ((i + 1 : Nat) : Int) ++ [((i + 1 : Nat) : Int)] from rgI_succ (by omega)]
theorem stF_prs (zs : List Str) : stF zs zs.length = prsF (cutsF zs) := by
  unfold cutsF
  cases hz : zs.length with
  | zero => rfl
  | succ n => exact stF_prs' zs n
end G

namespace G
open PySem PySem.Spec PyProof.Rows L2 TL RZ

/-! ### numbers of things, all in order -/
def isNumOf (n : Nat) : PyData → Bool
  | .int i => decide (0 ≤ i ∧ i < n)
  | _ => false
def numD : PyData → Int
  | .int i => i
  | _ => 0
theorem isNumOf_num {n : Nat} {d : PyData} (h : isNumOf n d = true) : isNum d = true := by
  cases d <;> first | rfl | (cases h)
theorem num_dts {B : Hp} : ∀ {vs : List V} {ds : List PyData}, Dts B vs ds → ds.all isNum = true → vs = (ds.map numD).map V.int
  | _, _, .nil, _ => rfl
  | _, _, .cons (d := d) h t, e => by
    rw [List.all_cons, Bool.and_eq_true] at e
    rw [num_dts t e.2]
    cases d with
    | int z => rw [h.i]; rfl
    | _ => cases e.1
/-- (key, number) of the first i things -/
def enKI (zs : List Str) : Nat → List (Str × Int)
  | 0 => []
  | i + 1 => enKI zs i ++ (match zs[i]? with
    | some z => [(z, (i : Int))]
    | none => [])
theorem enKI_succ {zs : List Str} {i : Nat} {z : Str} (h : zs[i]? = some z) : enKI zs (i + 1) = enKI zs i ++ [(z, (i : Int))] := by
  show enKI zs i ++ (match zs[i]? with
    | some z => [(z, (i : Int))]
    | none => []) = _
  rw [h]
def ordKN (zs : List Str) : List (Str × Int) := (enKI zs zs.length).mergeSort leKI
def ordN (zs : List Str) : List Int := (ordKN zs).map (·.2)
theorem enKI_len (zs : List Str) : ∀ i, i ≤ zs.length → (enKI zs i).length = i
  | 0, _ => rfl
  | i + 1, h => by
    have e : zs[i]? = some (zs[i]'(by omega)) := List.getElem?_eq_getElem _
    rw [enKI_succ e, List.length_append, enKI_len zs i (by omega)]; rfl
theorem ordKN_len (zs : List Str) : (ordKN zs).length = zs.length := by
  unfold ordKN
  rw [(List.mergeSort_perm _ _).length_eq, enKI_len zs _ (Nat.le_refl _)]
theorem ordN_len (zs : List Str) : (ordN zs).length = zs.length := by unfold ordN; rw [List.length_map, ordKN_len]
theorem enKI_at (zs : List Str) : ∀ i, ∀ a ∈ enKI zs i, ∃ j : Nat, j < i ∧ zs[j]? = some a.1 ∧ a.2 = (j : Int)
  | 0, _, h => nomatch h
  | i + 1, a, h => by
    have ih := enKI_at zs i
    cases e : zs[i]? with
    | none =>
      have : enKI zs (i + 1) = enKI zs i := by
        show enKI zs i ++ (match zs[i]? with
          | some z => [(z, (i : Int))]
          | none => []) = _
        rw [e, List.append_nil]
      rw [this] at h
      obtain ⟨j, h1, h2⟩ := ih a h
      exact ⟨j, by omega, h2⟩
    | some z =>
      rw [enKI_succ e] at h
      rcases List.mem_append.mp h with h | h
      · obtain ⟨j, h1, h2⟩ := ih a h
        exact ⟨j, by omega, h2⟩
      · rw [List.mem_singleton.mp h]
        exact ⟨i, Nat.lt_succ_self i, e, rfl⟩
theorem ordKN_at {zs : List Str} {a : Str × Int} (h : a ∈ ordKN zs) : ∃ j : Nat, j < zs.length ∧ zs[j]? = some a.1 ∧ a.2 = (j : Int) := enKI_at zs _ a ((List.mergeSort_perm _ _).mem_iff.mp h)
theorem ordN_ok {zs : List Str} {n : Int} (h : n ∈ ordN zs) : 0 ≤ n ∧ n < zs.length := by
  obtain ⟨a, ha, rfl⟩ := List.mem_map.mp h
  obtain ⟨j, h1, _, h2⟩ := ordKN_at ha
  omega
def sortedD (zs : List Str) : PyData → Bool
  | .list ds => ds.all isNum && decide (ds.map numD = ordN zs)
  | _ => false
theorem sortedD_list (zs : List Str) (ds : List PyData) : sortedD zs (.list ds) = (ds.all (isNumOf zs.length) && decide (ds.map numD = ordN zs)) := by
  show (ds.all isNum && decide (ds.map numD = ordN zs)) = _
  by_cases h : ds.map numD = ordN zs
  · rw [decide_eq_true h, Bool.and_true, Bool.and_true, Bool.eq_iff_iff, List.all_eq_true, List.all_eq_true]
    constructor
    · intro g d hd
      have := g d hd
      obtain ⟨i, rfl⟩ := isNum_of this
      exact decide_eq_true (ordN_ok (by rw [← h]; exact List.mem_map.mpr ⟨_, hd, rfl⟩))
    · exact fun g d hd => isNumOf_num (g d hd)
  · rw [decide_eq_false h, Bool.and_false, Bool.and_false]
/-! ### the text of a list of numbers -/
def okC (z : Str) : Prop := ∀ c ∈ tl z, c < 1114112
theorem okC_str (s : String) : okC (Str.ofString s) := by
  intro c hc
  rw [Str.ofString_eq_toList] at hc
  have hc' : c ∈ s.toList.map Char.toNat := by simpa [tl] using hc
  obtain ⟨x, _, rfl⟩ := List.mem_map.mp hc'
  have := x.valid
  rcases this with h | ⟨_, h⟩
  · exact Nat.lt_trans h (by decide)
  · exact h
theorem okC.app {x y : Str} (h : okC x) (h' : okC y) : okC (x ++ y) := by
  intro c hc
  rw [tl_append] at hc
  rcases List.mem_append.mp hc with hc | hc
  · exact h c hc
  · exact h' c hc
theorem okC.ok {z : Str} (h : okC z) : PyData.strOk z = true := by
  unfold PyData.strOk
  rw [← Array.all_toList, List.all_eq_true]
  exact fun c hc => decide_eq_true (h c hc)
theorem okC_from : ∀ (ts : List Str) (k : Nat) (acc : Str), okC acc → (∀ t ∈ ts, okC t) → okC (textFrom k acc ts)
  | [], _, _, h, _ => h
  | t :: ts, k, acc, h, ht => okC_from ts (k + 1) _ ((h.app (okC_str _)).app (ht t List.mem_cons_self)) fun x hx => ht x (List.mem_cons_of_mem _ hx)
theorem okC_ints (ns : List Int) : okC (PyData.shown (.list (ns.map PyData.int))) := by
  show okC (listText (PyData.shownAll (ns.map PyData.int)))
  refine (okC_from _ 0 _ (okC_str _) ?_).app (okC_str _)
  induction ns with
  | nil => exact fun _ h => nomatch h
  | cons n ns ih =>
    intro t ht
    rcases List.mem_cons.mp (show t ∈ PyData.shown (.int n) :: PyData.shownAll (ns.map PyData.int) from ht) with rfl | ht
    · exact okC_str _
    · exact ih t ht
/-- a text of a short list of small numbers -/
theorem dat_text {m : Nat} {B : Hp} {ns : List Int} (hl : ns.length ≤ 100) (h : ∀ n ∈ ns, 0 ≤ n ∧ n < 1000) : Dat m 62000 B (.str (txt (.list (ns.map PyData.int)))) := by
  have hw : Sw 4100 (.list (ns.map PyData.int)) := (sw_list (n := 100) (k := 40) (by rw [List.length_map]; exact hl) fun d hd => by
    obtain ⟨n, hn, rfl⟩ := List.mem_map.mp hd
    have := h n hn
    exact sw_int' (by omega) (by omega)).le (by decide)
  have hf : Fits 1 (.list (ns.map PyData.int)) := fits_list (by rw [List.length_map]; omega) fun d hd => by
    obtain ⟨n, hn, rfl⟩ := List.mem_map.mp hd
    exact fits_int
  have hc := hf.all.2.1
  refine dat_str (okC_ints ns).ok ?_
  have h1 := PyData.shown_le 13 (by decide) _ (PyData.leavesShort_of_canLay0 13 _ hc hw.2.1)
  have h2 := hw.1
  show (PyData.shown _).length ≤ _
  have h3 : (13 + 2) * (PyData.weight (.list (ns.map PyData.int))) ≤ 15 * 4100 := Nat.mul_le_mul (by decide) h2
  omega
end G

namespace G
open PySem PySem.Spec PyProof.Rows L2 TL RZ

/-! ### < of tuples -/
section
variable {X : Cx}
def rLtD (K : PySem.W.Frag) : R2 := fun x y H Q => ∃ d e, Dp K H x d ∧ Dp K H y e ∧ PySem.W.alike d e = true ∧ d ≠ .none ∧ d.depth ≤ 32 ∧ Q (.bl (PySem.W.dataLt d e)) H
theorem op_ltD (hu : X.A.units + 64 < cLine) : OpR X (compareOp .Lt) (rLtD X.K) := by
  intro pins s σ H x y v u Q I rx ry h
  obtain ⟨d, e, hd, he, hal, hn, hdep, q⟩ := h
  obtain ⟨as, ra⟩ := Dp.reads I _ _ _ hd rx
  obtain ⟨bs, rb⟩ := Dp.reads I _ _ _ he ry
  exact PySem.W.lt_data ra rb hal hn (by omega) ⟨.bl (PySem.W.dataLt d e), H, I, rfl, q⟩
def gLtD (K : PySem.W.Frag) : R2 := rLtD K
theorem oLtD {K : PySem.W.Frag} (hu : X.A.units + 64 < cLine) (hK : X.K = K := by rfl) : OpR X (compareOp .Lt) (gLtD K) := by subst hK; exact op_ltD hu
theorem oCount {K : PySem.W.Frag} (hK : X.K = K := by rfl) : MtR X "list.count" (rCntI K) := by subst hK; exact mt_lcount
end
theorem lt_KIs {K : PySem.W.Frag} {B H : Hp} {Q : VK} {x y : V} {a b : Str × Int} (s : Same B H) (h1 : Dt B x (encKI a)) (h2 : Dt B y (encKI b)) (q : Q (.bl (ltKI a b)) H) : gLtD K x y H Q :=
  ⟨_, _, h1.dp s, h2.dp s, alike_KI a b, non_KI a, dep_KI a, by rw [lt_KI]; exact q⟩
theorem ltKI_irr (a : Str × Int) : ltKI a a = false := by unfold ltKI; rw [if_pos rfl]; exact decide_eq_false (Int.lt_irrefl _)
theorem ltKI_le {a b : Str × Int} (h : ltKI a b = true) : leKI a b = true := by
  have := leKI_total a b
  rw [Bool.or_eq_true] at this
  rcases this with h' | h'
  · exact h'
  · unfold leKI at h'
    rw [h] at h'; cases h'
theorem ltKI_of {a b : Str × Int} (h : leKI a b = true) (hn : a ≠ b) : ltKI a b = true := by
  cases e : ltKI a b with
  | true => rfl
  | false =>
    have : leKI b a = true := by unfold leKI; rw [e]; rfl
    exact absurd (leKI_anti _ _ h this) hn
theorem ltKI_ne {a b : Str × Int} (h : ltKI a b = true) : a ≠ b := fun z => by rw [z, ltKI_irr] at h; cases h
theorem ltKI_trans {a b c : Str × Int} (h1 : ltKI a b = true) (h2 : ltKI b c = true) : ltKI a c = true := by
  refine ltKI_of (leKI_trans _ _ _ (ltKI_le h1) (ltKI_le h2)) fun z => ?_
  subst z
  have := leKI_anti _ _ (ltKI_le h1) (ltKI_le h2)
  rw [this, ltKI_irr] at h1; cases h1
theorem eqv_KI (a b : Str × Int) : PyData.eqv (encKI a) (encKI b) = decide (a = b) := by
  obtain ⟨x, n⟩ := a
  obtain ⟨y, m⟩ := b
  show PyData.eqv (.tuple [.str x, .int n]) (.tuple [.str y, .int m]) = _
  simp only [PyData.eqv, PyData.eqvAll, Bool.and_true, Prod.mk.injEq]
  rw [Bool.eq_iff_iff, Bool.and_eq_true, beq_iff_eq, beq_iff_eq, decide_eq_true_eq]
theorem eqv_KIs : ∀ as bs : List (Str × Int), PyData.eqvAll (as.map encKI) (bs.map encKI) = decide (as = bs)
  | [], [] => rfl
  | [], _ :: _ => by simp [PyData.eqvAll]
  | _ :: _, [] => by simp [PyData.eqvAll]
  | a :: as, b :: bs => by
    rw [List.map_cons, List.map_cons, PyData.eqvAll, eqv_KI, eqv_KIs as bs, Bool.eq_iff_iff, Bool.and_eq_true, decide_eq_true_eq, decide_eq_true_eq, decide_eq_true_eq, List.cons.injEq]
/-! ### what is a run -/
def keyN (zs : List Str) (n : Int) : Str := zs.getD n.toNat (Str.ofString "")
def kN (zs : List Str) (n : Int) : Str × Int := (keyN zs n, n)
def riseB (zs : List Str) : List Int → List Bool
  | a :: b :: r => ltKI (kN zs a) (kN zs b) :: riseB zs (b :: r)
  | _ => []
section
variable {zs : List Str}
theorem riseB_len : ∀ ns : List Int, (riseB zs ns).length = ns.length - 1
  | [] => rfl
  | [_] => rfl
  | _ :: b :: r => by rw [riseB, List.length_cons, riseB_len (b :: r)]; rfl
theorem riseB_at : ∀ {ns : List Int} {i : Nat} {a b : Int}, ns[i]? = some a → ns[i + 1]? = some b → (riseB zs ns)[i]? = some (ltKI (kN zs a) (kN zs b))
  | [], _, _, _, h, _ => by simp at h
  | [_], 0, _, _, _, h => by simp at h
  | [_], i + 1, _, _, h, _ => by simp at h
  | x :: y :: r, 0, a, b, h1, h2 => by
    rw [← Option.some.inj h1, ← Option.some.inj h2]; rfl
  | x :: y :: r, i + 1, a, b, h1, h2 => by
    rw [riseB, List.getElem?_cons_succ]
    exact riseB_at (ns := y :: r) (by simpa using h1) (by simpa using h2)
theorem riseB_pw : ∀ {ns : List Int}, (riseB zs ns).all id = true ↔ (ns.map (kN zs)).Pairwise fun a b => ltKI a b = true
  | [] => ⟨fun _ => List.Pairwise.nil, fun _ => rfl⟩
  | [x] => ⟨fun _ => List.pairwise_singleton _ _, fun _ => rfl⟩
  | x :: y :: r => by
    rw [riseB, List.all_cons, Bool.and_eq_true, riseB_pw (ns := y :: r)]
    constructor
    · rintro ⟨h1, h2⟩
      refine List.pairwise_cons.mpr ⟨fun z hz => ?_, h2⟩
      rcases List.mem_cons.mp hz with rfl | hz
      · exact h1
      · exact ltKI_trans h1 ((List.pairwise_cons.mp h2).1 z hz)
    · intro h
      exact ⟨(List.pairwise_cons.mp h).1 _ List.mem_cons_self, (List.pairwise_cons.mp h).2⟩
/-- the same: in order, and each once -/
theorem rise_gone (ns : List Int) : (riseB zs ns).all id = (decide (ns.map (kN zs) = (ns.map (kN zs)).mergeSort leKI) && (ns.map fun n => decide (((ns.count n : Nat) : Int) = 1)).all id) := by
  rw [Bool.eq_iff_iff, riseB_pw, Bool.and_eq_true, decide_eq_true_eq]
  have key : ((ns.map fun n => decide (((ns.count n : Nat) : Int) = 1)).all id = true) ↔ ns.Nodup := by
    rw [List.all_map, List.all_eq_true]
    constructor
    · intro h
      refine List.nodup_iff_count.mpr fun a => ?_
      by_cases ha : a ∈ ns
      · have := of_decide_eq_true (show decide (((ns.count a : Nat) : Int) = 1) = true from h a ha)
        omega
      · rw [List.count_eq_zero_of_not_mem ha]; exact Nat.zero_le _
    · intro h a ha
      have h1 := List.nodup_iff_count.mp h a
      have h2 := List.count_pos_iff.mpr ha
      exact decide_eq_true (show ((ns.count a : Nat) : Int) = 1 by omega)
  rw [key]
  constructor
  · intro h
    refine ⟨sortKI_of (List.Perm.refl _) (h.imp fun h => ltKI_le h), ?_⟩
    exact (List.pairwise_map.mp h).imp fun {a b} h z => by
      rw [z, ltKI_irr] at h; cases h
  · rintro ⟨h1, h2⟩
    have hp := sortKI_pw (ns.map (kN zs))
    rw [← h1] at hp
    refine List.pairwise_map.mpr ?_
    exact ((List.pairwise_map.mp hp).and h2).imp fun {a b} h => ltKI_of h.1 fun z => h.2 (congrArg Prod.snd z)
end
def runD (zs : List Str) : PyData → Bool
  | .list ds => !decide (ds = []) && ds.all (isNumOf zs.length) && (riseB zs (ds.map numD)).all id
  | _ => false
theorem keyN_at {zs : List Str} {n : Int} (h0 : 0 ≤ n) (h1 : n < zs.length) : zs[n.toNat]? = some (keyN zs n) := by
  have hl : n.toNat < zs.length := by omega
  unfold keyN
  rw [List.getD_eq_getElem?_getD, List.getElem?_eq_getElem hl]; rfl
/-- things[n] -/
theorem ix_thing {K : PySem.W.Frag} {H : Hp} {Q : VK} {p : Addr} {zs : List Str} {n : Int} (h : H p = some (.lst (zs.map V.str))) (h0 : 0 ≤ n) (h1 : n < zs.length) (q : Q (.str (keyN zs n)) H) : gIx K (.ref p) (.int n) H Q := by
  obtain ⟨j, rfl⟩ := nat_of h0
  exact ix_nat h (show (zs.map V.str)[j]? = _ by rw [List.getElem?_map, show zs[j]? = some (keyN zs j) from keyN_at h0 h1]; rfl) q
theorem isNumOf_int {n : Nat} {d : PyData} (h : isNumOf n d = true) : ∃ i : Int, d = .int i ∧ 0 ≤ i ∧ i < n := by
  cases d with
  | int i => exact ⟨i, rfl, of_decide_eq_true h⟩
  | _ => cases h
theorem nums_ok {n : Nat} {ds : List PyData} (h : ds.all (isNumOf n) = true) : ∀ i ∈ ds.map numD, 0 ≤ i ∧ i < n := fun i hi => by
  obtain ⟨d, hd, rfl⟩ := List.mem_map.mp hi
  obtain ⟨j, rfl, h1, h2⟩ := isNumOf_int (List.all_eq_true.mp h d hd)
  exact ⟨h1, h2⟩
end G

namespace G
open PySem PySem.Spec PyProof.Rows L2 TL RZ

/-! ### (place, key, number) -/
def encT (t : Int × Str × Int) : PyData := .tuple [.int t.1, .str t.2.1, .int t.2.2]
theorem alike_T (a b : Int × Str × Int) : PySem.W.alike (encT a) (encT b) = true := by
  unfold encT; simp [PySem.W.alike, PySem.W.alikeAll]
theorem tup_T (a : Int × Str × Int) : ∃ x r, encT a = .tuple (x :: r) := ⟨_, _, rfl⟩
theorem dep_T (a : Int × Str × Int) : (encT a).depth ≤ 32 := by
  unfold encT; simp [PyData.depth, PyData.depthAll]
theorem non_T (a : Int × Str × Int) : encT a ≠ .none := fun h => nomatch h
theorem lt_T (a b : Int × Str × Int) : PySem.W.dataLt (encT a) (encT b) = if a.1 = b.1 then ltKI a.2 b.2 else decide (a.1 < b.1) := by
  unfold encT
  rw [PySem.W.dataLt_tuple, PySem.W.dataLt_cons (by simp [PySem.W.alike]), ← PySem.W.dataLt_tuple, PySem.W.dataLt_int]
  have h := lt_KI a.2 b.2
  unfold encKI at h
  rw [h]
  show (if (a.1 == b.1) = true then _ else _) = _
  by_cases e : a.1 = b.1
  · rw [if_pos (by simpa using e), if_pos e]
  · rw [if_neg (by simpa using e), if_neg e]
theorem eqv_T (a b : Int × Str × Int) : PyData.eqv (encT a) (encT b) = decide (a = b) := by
  obtain ⟨p, x, n⟩ := a
  obtain ⟨q, y, m⟩ := b
  show PyData.eqv (.tuple [.int p, .str x, .int n]) (.tuple [.int q, .str y, .int m]) = _
  simp only [PyData.eqv, PyData.eqvAll, Bool.and_true, Prod.mk.injEq]
  rw [Bool.eq_iff_iff, Bool.and_eq_true, Bool.and_eq_true, beq_iff_eq, beq_iff_eq, beq_iff_eq, decide_eq_true_eq]
/-- tuples that stand while lists change -/
inductive Tps (H : Hp) : List V → List (Int × Str × Int) → Prop
  | nil : Tps H [] []
  | cons {a : Addr} {vs : List V} {t : Int × Str × Int} {ts : List (Int × Str × Int)} : H a = some (.tup [.int t.1, .str t.2.1, .int t.2.2]) → Tps H vs ts → Tps H (.ref a :: vs) (t :: ts)
section
variable {H H' : Hp}
theorem Tps.mono (s : Same H H') : ∀ {vs ts}, Tps H vs ts → Tps H' vs ts
  | _, _, .nil => .nil
  | _, _, .cons h t => .cons (s _ _ h) (t.mono s)
theorem Tps.upd {p : Addr} {xs : List V} {o : HO} (hp : H p = some (.lst xs)) : ∀ {vs ts}, Tps H vs ts → Tps (upd H p o) vs ts
  | _, _, .nil => .nil
  | _, _, .cons (a := a) h t => .cons (by rw [upd_ne (fun z => by rw [z, hp] at h; cases h)]; exact h) (t.upd hp)
theorem Tps.len : ∀ {vs ts}, Tps H vs ts → vs.length = ts.length
  | _, _, .nil => rfl
  | _, _, .cons _ t => by rw [List.length_cons, List.length_cons, t.len]
theorem Tps.dts : ∀ {vs ts}, Tps H vs ts → Dts H vs (ts.map encT)
  | _, _, .nil => .nil
  | _, _, .cons h t => .cons (dt_three h (.int _) (.str _) (.int _)) t.dts
theorem Tps.of : ∀ {vs : List V} {ts : List (Int × Str × Int)}, Dts H vs (ts.map encT) → Tps H vs ts
  | _, [], h => by cases h; exact .nil
  | _, t :: ts, h => by
    cases h with
    | cons h1 t1 =>
      obtain ⟨a, x, y, z, rfl, ea, hx, hy, hz⟩ := h1.three
      rw [hx.i, hy.s, hz.i] at ea
      exact .cons ea (Tps.of t1)
theorem Tps.erase : ∀ {vs ts} (j : Nat), Tps H vs ts → Tps H (vs.eraseIdx j) (ts.eraseIdx j)
  | _, _, _, .nil => .nil
  | _, _, 0, .cons _ t => t
  | _, _, j + 1, .cons h t => .cons h (t.erase j)
theorem Tps.snoc {a : Addr} {t : Int × Str × Int} (h : H a = some (.tup [.int t.1, .str t.2.1, .int t.2.2])) : ∀ {vs ts}, Tps H vs ts → Tps H (vs ++ [.ref a]) (ts ++ [t])
  | _, _, .nil => .cons h .nil
  | _, _, .cons h' t' => .cons h' (t'.snoc h)
end
theorem plain_T (ts : List (Int × Str × Int)) : PyData.plainAll (ts.map encT) = true := by
  induction ts with
  | nil => rfl
  | cons t ts ih =>
    rw [List.map_cons, PyData.plainAll, ih, Bool.and_true]
    unfold encT
    simp [PyData.plain, PyData.plainAll]
theorem place_T {ts : List (Int × Str × Int)} {m : Int × Str × Int} (h : m ∈ ts) : ∃ j, SeqAt.dataPlace (ts.map encT) (encT m) = some j ∧ ts[j]? = some m := by
  unfold SeqAt.dataPlace
  cases e : (ts.map encT).findIdx? fun y => PyData.eqv y (encT m) with
  | none =>
    rw [List.findIdx?_eq_none_iff] at e
    have := e _ (List.mem_map.mpr ⟨m, h, rfl⟩)
    rw [eqv_T, decide_eq_true rfl] at this; cases this
  | some j =>
    obtain ⟨h1, h2, _⟩ := List.findIdx?_eq_some_iff_getElem.mp e
    rw [List.getElem_map, eqv_T, decide_eq_true_eq] at h2
    rw [List.length_map] at h1
    exact ⟨j, rfl, by rw [List.getElem?_eq_getElem h1, h2]⟩
/-- within.remove(least) -/
theorem rem_T {K : PySem.W.Frag} {H : Hp} {Q : VK} {l : Addr} {vs : List V} {ts : List (Int × Str × Int)} {v : V} {m : Int × Str × Int} (h : H l = some (.lst vs)) (ht : Tps H vs ts) (hm : m ∈ ts) (hv : Dt H v (encT m))
    (q : ∀ j, ts[j]? = some m → Q .non (upd H l (.lst (vs.eraseIdx j)))) : gRem K (.ref l) [v] H Q := by
  obtain ⟨j, h1, h2⟩ := place_T hm
  exact .inr ⟨l, vs, _, v, _, j, rfl, rfl, h, ht.dts.dp (Same.refl _), hv.dp (Same.refl _), plain_T ts, by have := plain_T [m]; rwa [List.map_cons, PyData.plainAll, List.map_nil, PyData.plainAll, Bool.and_true] at this, dep_T m, h1, q j h2⟩
theorem erase_at : ∀ {ns : List Int} {n : Int}, n ∈ ns → ∃ j, ns[j]? = some n ∧ (∀ m : Nat, m < j → ns[m]? ≠ some n) ∧ ns.eraseIdx j = ns.erase n
  | [], _, h => nomatch h
  | a :: ns, n, h => by
    by_cases e : a = n
    · refine ⟨0, by rw [e]; rfl, fun m hm => absurd hm (Nat.not_lt_zero _), ?_⟩
      rw [e, List.erase_cons_head]; rfl
    · rcases List.mem_cons.mp h with h | h
      · exact absurd h.symm e
      · obtain ⟨j, h1, h2, h3⟩ := erase_at h
        refine ⟨j + 1, by simpa using h1, fun m hm => ?_, ?_⟩
        · cases m with
          | zero => intro z; exact e (Option.some.inj z)
          | succ m => have := h2 m (by omega); simpa using this
        · rw [List.erase_cons_tail (by simpa using e), List.eraseIdx_cons_succ, h3]
theorem rem_I {K : PySem.W.Frag} {H : Hp} {Q : VK} {l : Addr} {ns : List Int} {n : Int} (h : H l = some (.lst (ns.map V.int))) (hn : n ∈ ns) (q : Q .non (upd H l (.lst ((ns.erase n).map V.int)))) : gRem K (.ref l) [.int n] H Q := by
  obtain ⟨j, h1, h2, h3⟩ := erase_at hn
  exact .inl ⟨l, ns, n, j, rfl, rfl, h, h1, h2, by rw [h3]; exact q⟩
/-! ### runs by places -/
def IsLeast (zs : List Str) (h : List Int) (m : Int) : Prop := m ∈ h ∧ ∀ b ∈ h, leKI (kN zs m) (kN zs b) = true
def minN (zs : List Str) (h : List Int) : Option Int := h.find? fun m => h.all fun b => leKI (kN zs m) (kN zs b)
def runA (zs : List Str) : Nat → List Int → List Int → Nat → List (List Int) → Nat → List (List Int)
  | 0, _, _, _, F, _ => F
  | k + 1, h, l, c, F, p =>
    match minN zs (if h = [] then l else h) with
    | none => F
    | some n =>
      if c < zs.length then
        if lk (keyN zs c) (keyN zs n) = -1 then runA zs k ((if h = [] then l else h).erase n) ((if h = [] then [] else l) ++ [(c : Int)]) (c + 1) (if (if h = [] then p + 1 else p) = F.length then F ++ [[n]] else apF F (if h = [] then p + 1 else p) n) (if h = [] then p + 1 else p)
        else runA zs k ((if h = [] then l else h).erase n ++ [(c : Int)]) (if h = [] then [] else l) (c + 1) (if (if h = [] then p + 1 else p) = F.length then F ++ [[n]] else apF F (if h = [] then p + 1 else p) n) (if h = [] then p + 1 else p)
      else runA zs k ((if h = [] then l else h).erase n) (if h = [] then [] else l) c (if (if h = [] then p + 1 else p) = F.length then F ++ [[n]] else apF F (if h = [] then p + 1 else p) n) (if h = [] then p + 1 else p)
section
variable {zs : List Str} {h l : List Int} {c k p : Nat} {F : List (List Int)} {m n : Int}
theorem least_uniq (h1 : IsLeast zs h m) (h2 : IsLeast zs h n) : m = n := congrArg Prod.snd (leKI_anti _ _ (h1.2 n h2.1) (h2.2 m h1.1))
theorem minN_of (hm : IsLeast zs h m) : minN zs h = some m := by
  unfold minN
  cases e : h.find? fun m => h.all fun b => leKI (kN zs m) (kN zs b) with
  | none =>
    rw [List.find?_eq_none] at e
    exact absurd (List.all_eq_true.mpr hm.2) (e m hm.1)
  | some n =>
    have h1 := List.find?_some e
    have h2 := List.mem_of_find?_eq_some e
    exact congrArg some (least_uniq ⟨h2, List.all_eq_true.mp h1⟩ hm)
theorem runA_end : runA zs k [] [] c F p = F := by
  cases k with
  | zero => rfl
  | succ k => rfl
theorem runA_move : runA zs k [] l c F p = runA zs k l [] c F (p + 1) := by
  cases k with
  | zero => rfl
  | succ k =>
    by_cases e : l = []
    · subst e; rfl
    · conv => lhs; unfold runA
      conv => rhs; unfold runA
      rw [if_pos rfl, if_pos rfl, if_pos rfl, if_neg e, if_neg e, if_neg e]
/-- what goes out next is put behind -/
def putG (F : List (List Int)) (p : Nat) (n : Int) : List (List Int) := if p = F.length then F ++ [[n]] else apF F p n
theorem runA_step (hne : h ≠ []) (hm : IsLeast zs h n) : runA zs (k + 1) h l c F p = if c < zs.length then (if lk (keyN zs c) (keyN zs n) = -1 then runA zs k (h.erase n) (l ++ [(c : Int)]) (c + 1) (putG F p n) p else runA zs k (h.erase n ++ [(c : Int)]) l (c + 1) (putG F p n) p) else runA zs k (h.erase n) l c (putG F p n) p := by
  conv => lhs; unfold runA
  rw [if_neg hne, if_neg hne, if_neg hne, minN_of hm]; rfl
def runF (zs : List Str) (room : Nat) : List (List Int) := runA zs zs.length (rgI 0 ((min room zs.length : Nat) : Int)) [] (min room zs.length) [] 0
/-- how long the lists may be -/
def Fb (N k : Nat) (F : List (List Int)) : Prop := F.length + k ≤ N ∧ ∀ ns ∈ F, ns.length + k ≤ N
theorem Fb.put {N : Nat} (hb : Fb N (k + 1) F) : Fb N k (putG F p n) := by
  unfold putG
  split
  · refine ⟨by rw [List.length_append]; have := hb.1; show F.length + 1 + k ≤ N; omega, fun ns hn => ?_⟩
    rcases List.mem_append.mp hn with hn | hn
    · have := hb.2 ns hn; omega
    · rw [List.mem_singleton.mp hn]
      have := hb.1
      show 1 + k ≤ N; omega
  · refine ⟨by rw [apF_len]; have := hb.1; omega, mem_set_le (P := fun ns => ns.length + k ≤ N) (fun ns hn => by have := hb.2 ns hn; omega) ?_⟩
    rw [List.length_append, List.getD_eq_getElem?_getD]
    cases e : F[p]? with
    | none => have := hb.1; show 0 + 1 + k ≤ N; omega
    | some g => have := hb.2 g (List.mem_of_getElem? e); show g.length + 1 + k ≤ N; omega
theorem putG_len (hp : p = F.length ∨ p + 1 = F.length) : (putG F p n).length = p + 1 := by
  unfold putG
  rcases hp with hp | hp
  · rw [if_pos hp, List.length_append, hp]; rfl
  · rw [if_neg (by omega), apF_len, hp]
theorem putG_snoc (f : List (List Int)) (g : List Int) (n : Int) : putG (if g = [] then f else f ++ [g]) f.length n = f ++ [g ++ [n]] := by
  unfold putG
  by_cases e : g = []
  · rw [if_pos e, if_pos rfl, e]; rfl
  · rw [if_neg e, if_neg (by rw [List.length_append, List.length_cons, List.length_nil]; omega), apF_last]
/-- the triples of what's within -/
def tpN (zs : List Str) (p : Nat) (n : Int) : Int × Str × Int := ((p : Int), kN zs n)
theorem least_T {ts : List (Int × Str × Int)} {t : Int × Str × Int} (hne : h ≠ []) (hp : ts.Perm (h.map (tpN zs p) ++ l.map (tpN zs (p + 1)))) (ht : t ∈ ts) (hl : ∀ a ∈ ts, PySem.W.dataLt (encT a) (encT t) = false) : ∃ n, t = tpN zs p n ∧ IsLeast zs h n := by
  have hin : ∀ b ∈ h, tpN zs p b ∈ ts := fun b hb => hp.mem_iff.mpr (List.mem_append_left _ (List.mem_map.mpr ⟨b, hb, rfl⟩))
  rcases List.mem_append.mp (hp.mem_iff.mp ht) with h1 | h1
  · obtain ⟨n, hn, rfl⟩ := List.mem_map.mp h1
    refine ⟨n, rfl, hn, fun b hb => ?_⟩
    have := hl _ (hin b hb)
    rw [lt_T, if_pos (show (tpN zs p b).1 = (tpN zs p n).1 from rfl)] at this
    have h2 : ltKI (kN zs b) (kN zs n) = false := this
    unfold leKI
    rw [h2]; rfl
  · obtain ⟨n, hn, rfl⟩ := List.mem_map.mp h1
    obtain ⟨b, hb⟩ := List.exists_mem_of_ne_nil h hne
    have := hl _ (hin b hb)
    rw [lt_T, if_neg (by show ¬((p : Int) = ((p + 1 : Nat) : Int)); omega)] at this
    have h2 : decide ((p : Int) < ((p + 1 : Nat) : Int)) = false := this
    rw [decide_eq_true (by omega)] at h2; cases h2
theorem perm_ei {α : Type} : ∀ {l : List α} {j : Nat} {a : α}, l[j]? = some a → (a :: l.eraseIdx j).Perm l
  | [], _, _, h => by simp at h
  | x :: l, 0, a, h => by
    rw [← Option.some.inj h]; exact List.Perm.refl _
  | x :: l, j + 1, a, h => by
    rw [List.eraseIdx_cons_succ]
    exact (List.Perm.swap x a _).trans ((perm_ei (l := l) (by simpa using h)).cons x)
theorem perm_T {ts : List (Int × Str × Int)} {j : Nat} (hp : ts.Perm (h.map (tpN zs p) ++ l.map (tpN zs (p + 1)))) (hj : ts[j]? = some (tpN zs p n)) (hn : n ∈ h) : (ts.eraseIdx j).Perm ((h.erase n).map (tpN zs p) ++ l.map (tpN zs (p + 1))) := by
  have h1 : (tpN zs p n :: ts.eraseIdx j).Perm ts := perm_ei hj
  have h2 : (h.map (tpN zs p)).Perm (tpN zs p n :: (h.erase n).map (tpN zs p)) := (List.perm_cons_erase hn).map (tpN zs p)
  exact ((h1.trans hp).trans (h2.append_right _)).cons_inv
end
end G

namespace G
open PySem PySem.Spec PyProof.Rows L2 TL RZ

/-! ### runs rise -/
def Good (zs : List Str) (g : List Int) : Prop := g ≠ [] ∧ (∀ n ∈ g, 0 ≤ n ∧ n < (zs.length : Int)) ∧ (g.map (kN zs)).Pairwise fun a b => ltKI a b = true
structure RI (zs : List Str) (h l : List Int) (c : Nat) (F : List (List Int)) (p : Nat) : Prop where
  nd : (h ++ l).Nodup
  lt : ∀ n ∈ h ++ l, 0 ≤ n ∧ n < (c : Int)
  cl : c ≤ zs.length
  gd : ∀ g ∈ F, Good zs g
  ls : (F.length = p ∧ (h = [] → l = [])) ∨ (F.length = p + 1 ∧ ∀ g, F[p]? = some g → ∀ x ∈ g, ∀ b ∈ h, ltKI (kN zs x) (kN zs b) = true)
section
variable {zs : List Str}
theorem least_ex : ∀ {h : List Int}, h ≠ [] → ∃ m, IsLeast zs h m
  | [], h => absurd rfl h
  | [a], _ => ⟨a, List.mem_cons_self, fun b hb => by
    rw [List.mem_singleton.mp hb]
    have := leKI_total (kN zs a) (kN zs a)
    rwa [Bool.or_self] at this⟩
  | a :: b :: r, _ => by
    obtain ⟨m, h1, h2⟩ := least_ex (h := b :: r) (fun z => nomatch z)
    have ht := leKI_total (kN zs a) (kN zs m)
    rw [Bool.or_eq_true] at ht
    rcases ht with ht | ht
    · refine ⟨a, List.mem_cons_self, fun x hx => ?_⟩
      rcases List.mem_cons.mp hx with rfl | hx
      · have := leKI_total (kN zs x) (kN zs x)
        rwa [Bool.or_self] at this
      · exact leKI_trans _ _ _ ht (h2 x hx)
    · refine ⟨m, List.mem_cons_of_mem _ h1, fun x hx => ?_⟩
      rcases List.mem_cons.mp hx with rfl | hx
      · exact ht
      · exact h2 x hx
theorem kN_inj {a b : Int} (h : kN zs a = kN zs b) : a = b := congrArg Prod.snd h
theorem lt_later {n c : Int} (hn : n < c) (h : ¬ lk (keyN zs c) (keyN zs n) = -1) : ltKI (kN zs n) (kN zs c) = true := by
  unfold ltKI kN
  have hv := lk_val (keyN zs c) (keyN zs n)
  have ha := lk_anti (keyN zs c) (keyN zs n)
  by_cases e : keyN zs n = keyN zs c
  · rw [if_pos e]; exact decide_eq_true hn
  · rw [if_neg e]
    have : lk (keyN zs c) (keyN zs n) ≠ 0 := fun z => e (lk_eq.mp z).symm
    exact decide_eq_true (show lk (keyN zs n) (keyN zs c) = -1 by omega)
theorem nodup_sn {α : Type} {l : List α} {a : α} (h : l.Nodup) (ha : a ∉ l) : (l ++ [a]).Nodup := List.nodup_append.mpr ⟨h, List.pairwise_singleton _ _, fun x hx y hy => by rw [List.mem_singleton.mp hy]; exact fun z => ha (z ▸ hx)⟩
theorem RI.run : ∀ (k : Nat) {h l : List Int} {c : Nat} {F : List (List Int)} {p : Nat}, RI zs h l c F p → ∀ g ∈ runA zs k h l c F p, Good zs g
  | 0, _, _, _, _, _, I => I.gd
  | k + 1, h, l, c, F, p, I => by
    have step : ∀ {h l : List Int} {p : Nat}, h ≠ [] → RI zs h l c F p → ∀ g ∈ runA zs (k + 1) h l c F p, Good zs g := fun {h l p} hne I => by
      obtain ⟨n, hm⟩ := least_ex (zs := zs) hne
      rw [runA_step hne hm]
      have hFl : p = F.length ∨ p + 1 = F.length := by
        rcases I.ls with ⟨h1, _⟩ | ⟨h1, _⟩
        · exact .inl h1.symm
        · exact .inr h1.symm
      have hlen := putG_len (F := F) (n := n) hFl
      obtain ⟨hn0, hnc⟩ := I.lt n (List.mem_append_left _ hm.1)
      have hcl := I.cl
      have ndh : h.Nodup := (List.nodup_append.mp I.nd).1
      have hb : ∀ b ∈ h.erase n, ltKI (kN zs n) (kN zs b) = true := fun b hb => by
        have h1 := List.mem_of_mem_erase hb
        refine ltKI_of (hm.2 b h1) fun z => ?_
        have := kN_inj z
        rw [← this] at hb
        exact absurd hb (List.Nodup.not_mem_erase ndh)
      have gdn : ∀ g ∈ putG F p n, Good zs g := fun g hg => by
        have g1 : Good zs [n] := ⟨List.cons_ne_nil _ _, fun x hx => by rw [List.mem_singleton.mp hx]; omega, List.pairwise_singleton _ _⟩
        unfold putG at hg
        split at hg
        · rcases List.mem_append.mp hg with hg | hg
          · exact I.gd g hg
          · rw [List.mem_singleton.mp hg]; exact g1
        · rename_i hp
          refine mem_set_le (P := Good zs) I.gd ?_ g hg
          rw [List.getD_eq_getElem?_getD]
          cases e : F[p]? with
          | none => exact g1
          | some g' =>
            obtain ⟨q1, q2, q3⟩ := I.gd g' (List.mem_of_getElem? e)
            rcases I.ls with ⟨h1, _⟩ | ⟨_, h2⟩
            · exact absurd h1.symm hp
            · refine ⟨by simp, fun x hx => ?_, ?_⟩
              · rcases List.mem_append.mp hx with hx | hx
                · exact q2 x hx
                · rw [List.mem_singleton.mp hx]; omega
              · show ((g' ++ [n]).map (kN zs)).Pairwise _
                rw [List.map_append]
                refine List.pairwise_append.mpr ⟨q3, List.pairwise_singleton _ _, fun a ha b hb => ?_⟩
                obtain ⟨x, hx, rfl⟩ := List.mem_map.mp ha
                rw [List.mem_singleton.mp hb]
                exact h2 g' e x hx n hm.1
      have lsn : ∀ x, (∃ g, (putG F p n)[p]? = some g ∧ x ∈ g) → x = n ∨ ltKI (kN zs x) (kN zs n) = true := fun x ⟨g, hg, hx⟩ => by
        unfold putG at hg
        split at hg
        · rename_i hp
          rw [List.getElem?_append_right (by omega), show p - F.length = 0 by omega] at hg
          have e : [n] = g := Option.some.inj hg
          rw [← e] at hx
          exact .inl (List.mem_singleton.mp hx)
        · rename_i hp
          have hpl : p < F.length := by omega
          unfold apF at hg
          rw [List.getElem?_set_self hpl] at hg
          have e := Option.some.inj hg
          rw [← e, List.getD_eq_getElem?_getD, List.getElem?_eq_getElem hpl] at hx
          rcases List.mem_append.mp hx with hx | hx
          · rcases I.ls with ⟨h1, _⟩ | ⟨_, h2⟩
            · exact absurd h1.symm hp
            · exact .inr (h2 _ (List.getElem?_eq_getElem hpl) x hx n hm.1)
          · exact .inl (List.mem_singleton.mp hx)
      have lsb : ∀ {h' : List Int}, (∀ b ∈ h', ltKI (kN zs n) (kN zs b) = true) → (putG F p n).length = p + 1 ∧ ∀ g, (putG F p n)[p]? = some g → ∀ x ∈ g, ∀ b ∈ h', ltKI (kN zs x) (kN zs b) = true := fun hh => ⟨hlen, fun g hg x hx b hb2 => by
        rcases lsn x ⟨g, hg, hx⟩ with h1 | h1
        · rw [h1]; exact hh b hb2
        · exact ltKI_trans h1 (hh b hb2)⟩
      have nde : (h.erase n ++ l).Nodup := I.nd.sublist (List.erase_sublist.append (List.Sublist.refl l))
      have lte : ∀ x ∈ h.erase n ++ l, 0 ≤ x ∧ x < (c : Int) := fun x hx => by
        rcases List.mem_append.mp hx with hx | hx
        · exact I.lt x (List.mem_append_left _ (List.mem_of_mem_erase hx))
        · exact I.lt x (List.mem_append_right _ hx)
      have hcn : (c : Int) ∉ h.erase n ++ l := fun z => by have := lte _ z; omega
      split
      · rename_i hcN
        split
        · refine RI.run k ⟨?_, fun x hx => ?_, hcN, gdn, .inr (lsb hb)⟩
          · rw [← List.append_assoc]; exact nodup_sn nde hcn
          · rw [← List.append_assoc] at hx
            rcases List.mem_append.mp hx with hx | hx
            · have := lte x hx; omega
            · rw [List.mem_singleton.mp hx]; omega
        · rename_i hk
          refine RI.run k ⟨?_, fun x hx => ?_, hcN, gdn, .inr (lsb fun b hb' => ?_)⟩
          · have hp : (h.erase n ++ [(c : Int)] ++ l).Perm (h.erase n ++ l ++ [(c : Int)]) := by
              rw [List.append_assoc, List.append_assoc]
              exact List.perm_append_comm.append_left _
            exact hp.nodup_iff.mpr (nodup_sn nde hcn)
          · have hx' : x ∈ h.erase n ++ l ∨ x = (c : Int) := by
              rcases List.mem_append.mp hx with hx | hx
              · rcases List.mem_append.mp hx with hx | hx
                · exact .inl (List.mem_append_left _ hx)
                · exact .inr (List.mem_singleton.mp hx)
              · exact .inl (List.mem_append_right _ hx)
            rcases hx' with hx' | rfl
            · have := lte x hx'; omega
            · omega
          · rcases List.mem_append.mp hb' with h1 | h1
            · exact hb b h1
            · rw [List.mem_singleton.mp h1]
              exact lt_later hnc hk
      · exact RI.run k ⟨nde, lte, hcl, gdn, .inr (lsb hb)⟩
    by_cases hh : h = []
    · subst hh
      by_cases hl : l = []
      · subst hl
        rw [runA_end]; exact I.gd
      · rw [runA_move]
        refine step hl ⟨by simpa using I.nd, fun n hn => I.lt n (by simpa using hn), I.cl, I.gd, .inl ⟨?_, fun z => absurd z hl⟩⟩
        rcases I.ls with ⟨_, h2⟩ | ⟨h1, _⟩
        · exact absurd (h2 rfl) hl
        · exact h1
    · exact step hh I
theorem rgI_nd (a b : Int) : (rgI a b).Nodup := by
  unfold rgI
  exact List.pairwise_map.mpr ((List.nodup_range (n := (b - a).toNat)).imp fun {i j} h z => h (by omega))
theorem rgI_mem {b : Nat} {n : Int} : n ∈ rgI 0 (b : Int) ↔ 0 ≤ n ∧ n < (b : Int) := by
  unfold rgI
  rw [List.mem_map]
  constructor
  · rintro ⟨i, hi, rfl⟩
    have := List.mem_range.mp hi
    omega
  · rintro ⟨h1, h2⟩
    exact ⟨n.toNat, List.mem_range.mpr (by omega), by omega⟩
theorem runF_good (zs : List Str) (r : Nat) : ∀ g ∈ runF zs r, Good zs g := by
  refine RI.run _ ⟨?_, fun n hn => ?_, Nat.min_le_right _ _, fun _ h => (nomatch h), .inl ⟨rfl, fun _ => rfl⟩⟩
  · rw [List.append_nil]; exact rgI_nd _ _
  · rw [List.append_nil] at hn
    exact rgI_mem.mp hn
/-- what is good is a run -/
theorem runD_good {g : List Int} (h : Good zs g) : runD zs (.list (g.map PyData.int)) = true := by
  have e1 : (g.map PyData.int).map numD = g := by
    rw [List.map_map]
    exact (List.map_congr_left fun n _ => rfl).trans (List.map_id _)
  show (!decide (g.map PyData.int = []) && (g.map PyData.int).all (isNumOf zs.length) && (riseB zs ((g.map PyData.int).map numD)).all id) = true
  rw [e1, riseB_pw.mpr h.2.2, Bool.and_true, decide_eq_false (fun z => h.1 (List.map_eq_nil_iff.mp z)), List.all_map]
  exact List.all_eq_true.mpr fun n hn => decide_eq_true (h.2.1 n hn)
/-! stretches -/
theorem stF_good (zs : List Str) : ∀ i, i ≤ zs.length → (∀ g ∈ stF zs i, Good zs g) ∧ ∀ g, (stF zs i)[(stF zs i).length - 1]? = some g → ∀ x ∈ g, x = (i : Int) - 1 ∨ ltKI (kN zs x) (kN zs ((i : Int) - 1)) = true
  | 0, _ => ⟨fun _ h => (nomatch h), fun g h => by simp [stF] at h⟩
  | i + 1, hi => by
    obtain ⟨ih1, ih2⟩ := stF_good zs i (by omega)
    have gi : Good zs [(i : Int)] := ⟨List.cons_ne_nil _ _, fun x hx => by rw [List.mem_singleton.mp hx]; omega, List.pairwise_singleton _ _⟩
    by_cases hb : i = 0 ∨ lk (zs.getD i (Str.ofString "")) (zs.getD (i - 1) (Str.ofString "")) = -1
    · rw [stF_new hb]
      refine ⟨fun g hg => ?_, fun g hg x hx => ?_⟩
      · rcases List.mem_append.mp hg with hg | hg
        · exact ih1 g hg
        · rw [List.mem_singleton.mp hg]; exact gi
      · rw [List.length_append, List.length_cons, List.length_nil, Nat.add_sub_cancel, List.getElem?_append_right (Nat.le_refl _), Nat.sub_self] at hg
        have e : [(i : Int)] = g := Option.some.inj hg
        rw [← e] at hx
        rw [List.mem_singleton.mp hx]
        exact .inl (by omega)
    · have hi0 : i ≠ 0 := fun z => hb (.inl z)
      have hbk : ¬ lk (zs.getD i (Str.ofString "")) (zs.getD (i - 1) (Str.ofString "")) = -1 := fun z => hb (.inr z)
      rw [stF_old hi0 hbk]
      have hne := stF_ne zs (i := i) (by omega)
      have hlp := List.length_pos_iff.mpr hne
      have hlt : (stF zs i).length - 1 < (stF zs i).length := by omega
      have hg0 : (stF zs i)[(stF zs i).length - 1]? = some ((stF zs i)[(stF zs i).length - 1]'hlt) := List.getElem?_eq_getElem hlt
      generalize (stF zs i)[(stF zs i).length - 1]'hlt = g0 at hg0
      have hl := ih2 g0 hg0
      have hG := ih1 g0 (List.mem_of_getElem? hg0)
      have hlast : ltKI (kN zs ((i : Int) - 1)) (kN zs (i : Int)) = true := lt_later (by omega) (by
        unfold keyN
        rw [show ((i : Int)).toNat = i by omega, show ((i : Int) - 1).toNat = i - 1 by omega]; exact hbk)
      have hxi : ∀ x ∈ g0, ltKI (kN zs x) (kN zs (i : Int)) = true := fun x hx => by
        rcases hl x hx with h | h
        · rw [h]; exact hlast
        · exact ltKI_trans h hlast
      have hgD : (stF zs i).getD ((stF zs i).length - 1) [] = g0 := by rw [List.getD_eq_getElem?_getD, hg0]; rfl
      have hGn : Good zs (g0 ++ [(i : Int)]) := by
        refine ⟨by simp, fun x hx => ?_, ?_⟩
        · rcases List.mem_append.mp hx with hx | hx
          · exact hG.2.1 x hx
          · rw [List.mem_singleton.mp hx]; omega
        · rw [List.map_append]
          refine List.pairwise_append.mpr ⟨hG.2.2, List.pairwise_singleton _ _, fun a ha b hb => ?_⟩
          obtain ⟨x, hx, rfl⟩ := List.mem_map.mp ha
          rw [List.mem_singleton.mp hb]
          exact hxi x hx
      unfold apF
      rw [hgD]
      refine ⟨mem_set_le (P := Good zs) ih1 hGn, fun g hg x hx => ?_⟩
      rw [List.length_set, List.getElem?_set_self hlt] at hg
      rw [← Option.some.inj hg] at hx
      rcases List.mem_append.mp hx with hx | hx
      · right
        rw [show (((i + 1 : Nat) : Int) - 1) = (i : Int) by omega]
        exact hxi x hx
      · left
        rw [List.mem_singleton.mp hx]; omega
/-! of one place -/
theorem run1 (zs : List Str) : ∀ (m c p : Nat), 1 ≤ c → c ≤ zs.length → m = zs.length - c + 1 →
    ((p = (stF zs (c - 1)).length ∧ (c - 1 = 0 ∨ lk (zs.getD (c - 1) (Str.ofString "")) (zs.getD (c - 1 - 1) (Str.ofString "")) = -1)) ∨ (p + 1 = (stF zs (c - 1)).length ∧ c - 1 ≠ 0 ∧ ¬ lk (zs.getD (c - 1) (Str.ofString "")) (zs.getD (c - 1 - 1) (Str.ofString "")) = -1)) →
    runA zs m [((c - 1 : Nat) : Int)] [] c (stF zs (c - 1)) p = stF zs zs.length
  | 0, c, p, _, _, hm, _ => by omega
  | m + 1, c, p, h1, h2, hm, hc => by
    have hL : IsLeast zs [((c - 1 : Nat) : Int)] ((c - 1 : Nat) : Int) := ⟨List.mem_cons_self, fun b hb => by
      rw [List.mem_singleton.mp hb]
      have := leKI_total (kN zs ((c - 1 : Nat) : Int)) (kN zs ((c - 1 : Nat) : Int))
      rwa [Bool.or_self] at this⟩
    rw [runA_step (List.cons_ne_nil _ _) hL, List.erase_cons_head]
    have hput : putG (stF zs (c - 1)) p ((c - 1 : Nat) : Int) = stF zs c := by
      have ec : c = (c - 1) + 1 := by omega
      conv => rhs; rw [ec]
      unfold putG
      rcases hc with ⟨hp, hb⟩ | ⟨hp, h0, hb⟩
      · rw [if_pos hp, stF_new hb]
      · rw [if_neg (by omega), stF_old h0 hb, show (stF zs (c - 1)).length - 1 = p by omega]
    have hlen : (stF zs c).length = p + 1 := by
      rw [← hput]
      refine putG_len ?_
      rcases hc with ⟨hp, _⟩ | ⟨hp, _⟩
      · exact .inl hp
      · exact .inr hp
    rw [hput]
    have k1 : keyN zs (c : Int) = zs.getD c (Str.ofString "") := by unfold keyN; rw [show ((c : Int)).toNat = c by omega]
    have k2 : keyN zs ((c - 1 : Nat) : Int) = zs.getD (c - 1) (Str.ofString "") := by unfold keyN; rw [show (((c - 1 : Nat) : Int)).toNat = c - 1 by omega]
    rw [k1, k2]
    split
    · rename_i hcN
      split
      · rename_i hb
        rw [List.nil_append, runA_move]
        exact run1 zs m (c + 1) (p + 1) (by omega) hcN (by omega) (.inl ⟨hlen.symm, .inr hb⟩)
      · rename_i hb
        rw [List.nil_append]
        exact run1 zs m (c + 1) p (by omega) hcN (by omega) (.inr ⟨hlen.symm, by omega, hb⟩)
    · rename_i hcN
      rw [runA_end, show c = zs.length by omega]
theorem runF_one (zs : List Str) : runF zs 1 = stF zs zs.length := by
  unfold runF
  cases hz : zs.length with
  | zero => rfl
  | succ n =>
    have hm : min 1 (n + 1) = 1 := by omega
    rw [hm]
    have := run1 zs (n + 1) 1 0 (Nat.le_refl _) (by omega) (by omega) (.inl ⟨rfl, .inl rfl⟩)
    rw [hz] at this
    exact this
/-! all in order -/
theorem enKI_snd (zs : List Str) : ∀ i, i ≤ zs.length → (enKI zs i).map (·.2) = rgI 0 (i : Int)
  | 0, _ => rfl
  | i + 1, h => by
    have e : zs[i]? = some (zs[i]'(by omega)) := List.getElem?_eq_getElem _
    rw [enKI_succ e, List.map_append, enKI_snd zs i (by omega), rgI_succ (by omega)]; rfl
theorem ordN_perm (zs : List Str) : (ordN zs).Perm (rgI 0 (zs.length : Int)) := by
  rw [← enKI_snd zs _ (Nat.le_refl _)]
  exact (List.mergeSort_perm _ _).map _
theorem ordN_kN (zs : List Str) : (ordN zs).map (kN zs) = ordKN zs := by
  unfold ordN
  rw [List.map_map]
  refine (List.map_congr_left fun a ha => ?_).trans (List.map_id _)
  obtain ⟨j, h1, h2, h3⟩ := ordKN_at ha
  show (keyN zs a.2, a.2) = a
  have : keyN zs a.2 = a.1 := by
    unfold keyN
    rw [h3, show ((j : Int)).toNat = j by omega, List.getD_eq_getElem?_getD, h2]; rfl
  rw [this]
theorem ordN_rise (zs : List Str) : ((ordN zs).map (kN zs)).Pairwise fun a b => ltKI a b = true := by
  have hn : (ordN zs).Nodup := (ordN_perm zs).nodup_iff.mpr (rgI_nd _ _)
  have hp : ((ordN zs).map (kN zs)).Pairwise fun a b => leKI a b = true := by rw [ordN_kN]; exact sortKI_pw _
  refine List.pairwise_map.mpr ?_
  exact ((List.pairwise_map.mp hp).and hn).imp fun {a b} h => ltKI_of h.1 fun z => h.2 (kN_inj z)
end
theorem runA_fb {zs : List Str} {N : Nat} : ∀ (k : Nat) (h l : List Int) (c : Nat) (F : List (List Int)) (p : Nat), Fb N k F → Fb N 0 (runA zs k h l c F p)
  | 0, _, _, _, _, _, hb => hb
  | k + 1, h, l, c, F, p, hb => by
    have hz : Fb N 0 F := ⟨by have := hb.1; omega, fun ns hn => by have := hb.2 ns hn; omega⟩
    unfold runA
    split
    · exact hz
    · rename_i n _
      have hp : Fb N k (if (if h = [] then p + 1 else p) = F.length then F ++ [[n]] else apF F (if h = [] then p + 1 else p) n) := hb.put
      split
      · split
        · exact runA_fb k _ _ _ _ _ hp
        · exact runA_fb k _ _ _ _ _ hp
      · exact runA_fb k _ _ _ _ _ hp
theorem runF_fb (zs : List Str) (r : Nat) : (runF zs r).length ≤ zs.length ∧ ∀ ns ∈ runF zs r, ns.length ≤ zs.length := runA_fb _ _ _ _ _ _ ⟨by simp, fun _ h => nomatch h⟩
end G

namespace G
open PySem PySem.Spec PyProof.Rows L2 TL RZ

/-! ### xs[i] += k -/
section
variable {X : Cx}
def rGetN : R2 := fun o i H Q => ∃ (p : Addr) (xs : List V) (j : Nat) (v : V), o = .ref p ∧ i = .int (j : Int) ∧ H p = some (.lst xs) ∧ xs[j]? = some v ∧ Q v H
theorem get_lst : PGet X rGetN := by
  intro pins s σ H o i ov iv Q I ro ri h
  obtain ⟨p, xs, j, z, rfl, rfl, hq, he, q⟩ := h
  cases ro
  obtain ⟨t, rfl⟩ := ri
  obtain ⟨its, n, r, e, hz⟩ := I.lst hq
  obtain ⟨w, ew, rw'⟩ := r.get he
  have hl := r.length
  have hj : j < xs.length := (List.getElem?_eq_some_iff.mp he).1
  have hs := sizeLine_eq
  refine wpAny_getItem_list (x := w) ⟨_, e, rfl, n, rfl⟩ (by omega) (by omega) (by simpa using ew) ⟨z, H, I, rw', q⟩
end
section
variable {to ti te : TE} {tget : V → V → Hp → VK → Prop} {tip : TIp} {tset : TSet} {D : Ends} {σ : L2.St} {H : Hp} {o i x y : V}
def Au3 (tip : TIp) (tset : TSet) (D : Ends) (σ : L2.St) (o i x y : V) (H4 : Hp) : Prop := tip x y H4 fun z H5 => tset o i z H5 fun H6 => D.nx σ H6
def Au2 (te : TE) (tget : V → V → Hp → VK → Prop) (tip : TIp) (tset : TSet) (D : Ends) (σ : L2.St) (o i : V) (H2 : Hp) : Prop := tget o i H2 fun x H3 => te σ H3 (Au3 tip tset D σ o i x)
def Au1 (ti te : TE) (tget : V → V → Hp → VK → Prop) (tip : TIp) (tset : TSet) (D : Ends) (σ : L2.St) (o : V) (H1 : Hp) : Prop := ti σ H1 (Au2 te tget tip tset D σ o)
theorem g_augS (h : to σ H (Au1 ti te tget tip tset D σ)) : tAugS to ti te tget tip tset D σ H := h
theorem g_au1 (h : ti σ H (Au2 te tget tip tset D σ o)) : Au1 ti te tget tip tset D σ o H := h
theorem g_au3 (h : tip x y H fun z H5 => tset o i z H5 fun H6 => D.nx σ H6) : Au3 tip tset D σ o i x y H := h
theorem au_get {p : Addr} {xs : List V} {j : Nat} {v : V} (h : H p = some (.lst xs)) (hj : xs[j]? = some v) (q : te σ H (Au3 tip tset D σ (.ref p) (.int (j : Int)) v)) : Au2 te rGetN tip tset D σ (.ref p) (.int (j : Int)) H := ⟨p, xs, j, v, rfl, rfl, h, hj, q⟩
end
/-! ### xs[::2] -/
def evV {α : Type} (xs : List α) : List α := (List.range ((xs.length + 1) / 2)).filterMap fun k => xs[2 * k]?
theorem ev_bounds (n : Nat) : sliceBounds none none (some 2) n = (0, (n : Int), 2) := by
  first
  | rfl
  | simp [sliceBounds]
theorem ev_pick (items : Array Value) : slicePick items none none (some 2) = (evV items.toList).toArray := by
  unfold slicePick
  rw [ev_bounds]
  show ((sliceRange 0 (items.size : Int) 2).filterMap (items[·]?)).toArray = _
  unfold sliceRange evV
  rw [if_pos (by decide)]
  by_cases h : (0 : Int) < (items.size : Int)
  · rw [if_pos h, List.filterMap_map]
    congr 1
    rw [show (((items.size : Int) - 0 + 2 - 1) / 2).toNat = (items.toList.length + 1) / 2 by rw [Array.length_toList]; omega]
    refine congrArg (fun f => List.filterMap f _) (funext fun k => ?_)
    show items[((0 : Int) + 2 * (k : Int)).toNat]? = items.toList[2 * k]?
    rw [show ((0 : Int) + 2 * (k : Int)).toNat = 2 * k by omega, Array.getElem?_toList]
  · have e : items.size = 0 := by omega
    rw [if_neg h, Array.length_toList, e]; rfl
theorem Vals.pick {xs : List V} {ys : List Value} (r : Vals xs ys) : ∀ ks : List Nat, Vals (ks.filterMap fun k => xs[2 * k]?) (ks.filterMap fun k => ys[2 * k]?)
  | [] => .nil
  | k :: ks => by
    have ih := Vals.pick r ks
    have hl := r.length
    cases e : xs[2 * k]? with
    | none =>
      have e2 : ys[2 * k]? = none := by
        rw [List.getElem?_eq_none_iff] at e ⊢
        omega
      rw [List.filterMap_cons_none (f := fun k => xs[2 * k]?) e, List.filterMap_cons_none (f := fun k => ys[2 * k]?) e2]; exact ih
    | some v =>
      obtain ⟨w, ew, rw'⟩ := r.get e
      rw [List.filterMap_cons_some (f := fun k => xs[2 * k]?) e, List.filterMap_cons_some (f := fun k => ys[2 * k]?) ew]
      exact .cons rw' ih
theorem ev_len {α : Type} (xs : List α) : (evV xs).length ≤ xs.length := by
  unfold evV
  refine Nat.le_trans (List.length_filterMap_le _ _) ?_
  rw [List.length_range]; omega
section
variable {X : Cx} {K : PySem.W.Frag}
def Ev1 (Q : VK) (x : V) (H1 : Hp) : Prop := ∃ a xs, x = .ref a ∧ H1 a = some (.lst xs) ∧ AtNew Q (.lst (evV xs)) H1
def tEv (te : TE) : TE := fun σ H Q => te σ H fun x H1 => Ev1 Q x H1
theorem g_ev {te : TE} {σ : L2.St} {H : Hp} {Q : VK} (h : te σ H (Ev1 Q)) : tEv te σ H Q := h
theorem pe_ev {e : Expr} {te : TE} {k : Nat} {p1 p3 pos : Pos} (he : PE X e te) : PE X (.Subscript e (.Slice none none (some (.Constant (.int 2) k p1)) p3) pos) (tEv te) := by
  refine ⟨fun pins s σ H Q I h => ?_⟩
  refine Subscript_ (thn (he.run pins s σ H _ I h) fun v s1 ⟨x, H1, I1, r1, q1⟩ => ?_)
  obtain ⟨a, xs, ex, hx, q⟩ := q1
  subst ex
  cases r1
  have hst : PO X (some (.Constant (.int 2) k p1)) (tPart (tC (.int 2))) := po_some pe_int
  refine wpAny_Slice (thn (po_none.run pins s1 σ H1 (fun o H2 => o = none ∧ H2 = H1) I1 ⟨rfl, rfl⟩) fun vl s2 ⟨l, H2, I2, pl, el, e2⟩ => ?_)
  subst el e2
  refine thn (po_none.run pins s2 σ H2 (fun o H3 => o = none ∧ H3 = H2) I2 ⟨rfl, rfl⟩) fun vu s3 ⟨u, H3, I3, pu, eu, e3⟩ => ?_
  subst eu e3
  refine thn (hst.run pins s3 σ H3 (fun o H4 => o = some 2 ∧ H4 = H3) I3 ⟨2, rfl, rfl, rfl⟩) fun vs s4 ⟨o, H4, I4, ps, eo, e4⟩ => ?_
  subst eo e4
  have I5 : Inv X pins σ H4 { s4 with heap := s4.heap.push { cls := .type "slice", data := .fields #[vl, vu, vs] } } := I4.kept (t' := s4.toks) fun b ob q => Heap.get?_push_of_some _ q
  obtain ⟨its, r, ht, hz⟩ := I5.list (SqL.of hx)
  have hlen := r.length
  show wpAny (model X.prog X.w) X.A (subscriptTail e (.Slice none none (some (.Constant (.int 2) k p1)) p3) (.ref a) (.ref s4.heap.objs.size)) (EP X pins σ Q) X.xe { s4 with heap := s4.heap.push { cls := .type "slice", data := .fields #[vl, vu, vs] } }
  refine tail_any (ops := [.ref a, .ref s4.heap.objs.size]) ht.isList.typeIs (PySem.slot_list_getitem.lookup) ?_ (by with_unfolding_all rfl)
  refine wpAny_getItem_list_slice ht.isList (Heap.IsSliceOf.new _ vl vu vs) pl pu ps (by decide) ?_ (by rw [List.size_toArray]; omega)
  rw [ev_pick, List.toList_toArray]
  refine ⟨.ref _, _, I5.laid (t' := s4.toks) (o := .lst (evV xs)) (fun b ob q => Heap.get?_push_of_some _ q) (Nat.le_refl _) ?_, rfl, q _ (I5.hok.fresh (Nat.le_refl _))⟩
  refine ⟨Nat.le_trans (ev_len xs) hz, _, 0, ?_, Heap.get?_push_size _ rfl⟩
  unfold evV
  rw [← hlen]
  exact Vals.pick r _
end
/-! ### two rows as one -/
def tr3 (w : Nat) (xs : List Str) : Nat → List (Str × Int × Int)
  | 0 => []
  | i + 1 => tr3 w xs i ++ (match xs[i]? with
    | some z => [(z, (w : Int), (i : Int))]
    | none => [])
theorem tr3_succ {w : Nat} {xs : List Str} {i : Nat} {z : Str} (h : xs[i]? = some z) : tr3 w xs (i + 1) = tr3 w xs i ++ [(z, (w : Int), (i : Int))] := by
  show tr3 w xs i ++ (match xs[i]? with
    | some z => [(z, (w : Int), (i : Int))]
    | none => []) = _
  rw [h]
theorem tr3_at (w : Nat) (xs : List Str) : ∀ i, ∀ a ∈ tr3 w xs i, ∃ j : Nat, j < i ∧ xs[j]? = some a.1 ∧ a.2.1 = (w : Int) ∧ a.2.2 = (j : Int)
  | 0, _, h => nomatch h
  | i + 1, a, h => by
    have ih := tr3_at w xs i
    cases e : xs[i]? with
    | none =>
      have : tr3 w xs (i + 1) = tr3 w xs i := by
        show tr3 w xs i ++ (match xs[i]? with
          | some z => [(z, (w : Int), (i : Int))]
          | none => []) = _
        rw [e, List.append_nil]
      rw [this] at h
      obtain ⟨j, h1, h2⟩ := ih a h
      exact ⟨j, by omega, h2⟩
    | some z =>
      rw [tr3_succ e] at h
      rcases List.mem_append.mp h with h | h
      · obtain ⟨j, h1, h2⟩ := ih a h
        exact ⟨j, by omega, h2⟩
      · rw [List.mem_singleton.mp h]
        exact ⟨i, Nat.lt_succ_self i, e, rfl, rfl⟩
theorem tr3_mem {w : Nat} {xs : List Str} : ∀ {i j : Nat} {z : Str}, j < i → xs[j]? = some z → (z, (w : Int), (j : Int)) ∈ tr3 w xs i
  | 0, _, _, h, _ => absurd h (Nat.not_lt_zero _)
  | i + 1, j, z, h, hz => by
    by_cases e : j = i
    · subst e
      rw [tr3_succ hz]
      exact List.mem_append_right _ List.mem_cons_self
    · exact List.mem_append_left _ (tr3_mem (by omega) hz)
theorem tr3_fst (w : Nat) (xs : List Str) : ∀ i, i ≤ xs.length → (tr3 w xs i).map (·.1) = xs.take i
  | 0, _ => rfl
  | i + 1, h => by
    have e : xs[i]? = some (xs[i]'(by omega)) := List.getElem?_eq_getElem _
    rw [tr3_succ e, List.map_append, tr3_fst w xs i (by omega), List.take_succ, e]; rfl
theorem tr3_len (w : Nat) (xs : List Str) (i : Nat) (h : i ≤ xs.length) : (tr3 w xs i).length = i := by
  have := congrArg List.length (tr3_fst w xs i h)
  rw [List.length_map, List.length_take] at this; omega
def le3 (a b : Str × Int × Int) : Bool := decide (lk a.1 b.1 = -1) || (decide (a.1 = b.1) && (decide (a.2.1 < b.2.1) || (decide (a.2.1 = b.2.1) && decide (a.2.2 ≤ b.2.2))))
theorem le3_iff {a b : Str × Int × Int} : le3 a b = true ↔ lk a.1 b.1 = -1 ∨ (a.1 = b.1 ∧ (a.2.1 < b.2.1 ∨ (a.2.1 = b.2.1 ∧ a.2.2 ≤ b.2.2))) := by
  unfold le3
  simp only [Bool.or_eq_true, Bool.and_eq_true, decide_eq_true_eq]
def enc3 (t : Str × Int × Int) : PyData := .tuple [.str t.1, .int t.2.1, .int t.2.2]
theorem alike_3 (a b : Str × Int × Int) : PySem.W.alike (enc3 a) (enc3 b) = true := by
  unfold enc3; simp [PySem.W.alike, PySem.W.alikeAll]
theorem tup_3 (a : Str × Int × Int) : ∃ x r, enc3 a = .tuple (x :: r) := ⟨_, _, rfl⟩
theorem dep_3 (a : Str × Int × Int) : (enc3 a).depth ≤ 32 := by
  unfold enc3; simp [PyData.depth, PyData.depthAll]
theorem lt_3 (a b : Str × Int × Int) : PySem.W.dataLt (enc3 b) (enc3 a) = !le3 a b := by
  have h := PySem.W.dataLt_ii b.2.1 b.2.2 a.2.1 a.2.2
  unfold enc3
  rw [PySem.W.dataLt_tuple, PySem.W.dataLt_cons (by simp [PySem.W.alike]), ← PySem.W.dataLt_tuple, h, PySem.W.dataLt_str]
  show (if (b.1 == a.1) = true then _ else _) = _
  have hv := lk_val a.1 b.1
  have ha := lk_anti a.1 b.1
  rw [Bool.eq_iff_iff, Bool.not_eq_true', ← Bool.not_eq_true, le3_iff]
  by_cases e : b.1 = a.1
  · have h0 : lk a.1 b.1 = 0 := by rw [e]; exact lk_self _
    rw [if_pos (by simpa using e), decide_eq_true_eq]
    constructor
    · intro h1 h2
      rcases h2 with h2 | ⟨_, h2⟩ <;> omega
    · intro h1
      by_cases c : b.2.1 < a.2.1
      · exact .inl c
      · refine .inr ⟨?_, ?_⟩
        · refine Decidable.byContradiction fun z => h1 (.inr ⟨e.symm, .inl (by omega)⟩)
        · refine Decidable.byContradiction fun z => h1 (.inr ⟨e.symm, ?_⟩)
          by_cases d : a.2.1 < b.2.1
          · exact .inl d
          · exact .inr ⟨by omega, by omega⟩
  · rw [if_neg (by simpa using e), decide_eq_true_eq]
    have h0 : lk a.1 b.1 ≠ 0 := fun z => e (lk_eq.mp z).symm
    have hlt : (b.1.cps.toList < a.1.cps.toList) ↔ lk b.1 a.1 = -1 := lk_lt
    rw [hlt]
    constructor
    · rintro h1 (h2 | ⟨h2, _⟩)
      · omega
      · exact e h2.symm
    · intro h1
      have : ¬ lk a.1 b.1 = -1 := fun z => h1 (.inl z)
      omega
theorem le3_tot : ∀ a b, (le3 a b || le3 b a) = true := fun a b => by
  rw [Bool.or_eq_true, le3_iff, le3_iff]
  have hv := lk_val a.1 b.1
  have ha := lk_anti a.1 b.1
  by_cases e : a.1 = b.1
  · by_cases c : a.2.1 < b.2.1
    · exact .inl (.inr ⟨e, .inl c⟩)
    · by_cases d : b.2.1 < a.2.1
      · exact .inr (.inr ⟨e.symm, .inl d⟩)
      · by_cases f : a.2.2 ≤ b.2.2
        · exact .inl (.inr ⟨e, .inr ⟨by omega, f⟩⟩)
        · exact .inr (.inr ⟨e.symm, .inr ⟨by omega, by omega⟩⟩)
  · have h0 : lk a.1 b.1 ≠ 0 := fun z => e (lk_eq.mp z)
    by_cases c : lk a.1 b.1 = -1
    · exact .inl (.inl c)
    · exact .inr (.inl (by omega))
theorem le3_trans : ∀ a b c, le3 a b = true → le3 b c = true → le3 a c = true := fun a b c h1 h2 => by
  rw [le3_iff] at *
  rcases h1 with h1 | ⟨e1, h1⟩
  · rcases h2 with h2 | ⟨e2, h2⟩
    · left
      have := lk_lt_of (x := a.1) (y := b.1) (z := c.1) (by omega) (by omega) (.inl (by omega))
      have := lk_val a.1 c.1
      omega
    · left; rw [← e2]; exact h1
  · rcases h2 with h2 | ⟨e2, h2⟩
    · left; rw [e1]; exact h2
    · right
      refine ⟨e1.trans e2, ?_⟩
      rcases h1 with h1 | ⟨h1, h1'⟩
      · rcases h2 with h2 | ⟨h2, _⟩
        · left; omega
        · left; omega
      · rcases h2 with h2 | ⟨h2, h2'⟩
        · left; omega
        · right; omega
theorem le3_anti : ∀ a b, le3 a b = true → le3 b a = true → a = b := fun a b h1 h2 => by
  rw [le3_iff] at *
  have ha := lk_anti a.1 b.1
  rcases h1 with h1 | ⟨e1, h1⟩
  · rcases h2 with h2 | ⟨e2, _⟩
    · omega
    · rw [e2, lk_self] at h1; omega
  · rcases h2 with h2 | ⟨_, h2⟩
    · rw [e1, lk_self] at h2; omega
    · exact Prod.ext e1 (Prod.ext (by omega) (by omega))
def srt3 (xs ys : List Str) : List (Str × Int × Int) := (tr3 0 xs xs.length ++ tr3 1 ys ys.length).mergeSort le3
theorem srt3_of {xs ys : List Str} {l : List (Str × Int × Int)} (hp : l.Perm (tr3 0 xs xs.length ++ tr3 1 ys ys.length)) (h : l.Pairwise fun a b => le3 a b = true) : l = srt3 xs ys := PySem.W.Srt.the_of_perm le3 le3_trans le3_tot le3_anti hp h
theorem sorted_3 {K : PySem.W.Frag} {B H : Hp} {Q : VK} {p : Addr} {vs : List V} {ts : List (Str × Int × Int)} (s : Same B H) (h : H p = some (.lst vs)) (hd : Dts B vs (ts.map enc3)) (q : ∀ ys, Dts B ys ((ts.mergeSort le3).map enc3) → AtNew Q (.lst ys) H) : gSorted K [.ref p] H Q :=
  sorted_D s h hd alike_3 tup_3 dep_3 (fun a b => by rw [lt_3, Bool.not_not]) q
/-- what is left of both rows -/
def rest3 (xs ys : List Str) (i j : Nat) : List (Str × Int × Int) := (tr3 0 xs xs.length).drop i ++ (tr3 1 ys ys.length).drop j
theorem tr3_get {w : Nat} {xs : List Str} : ∀ {n i : Nat} {z : Str}, n ≤ xs.length → i < n → xs[i]? = some z → (tr3 w xs n)[i]? = some (z, (w : Int), (i : Int))
  | 0, _, _, _, h, _ => absurd h (Nat.not_lt_zero _)
  | n + 1, i, z, hn, hi, hz => by
    have e : xs[n]? = some (xs[n]'(by omega)) := List.getElem?_eq_getElem _
    have hl := tr3_len w xs n (by omega)
    rw [tr3_succ e]
    by_cases c : i < n
    · rw [List.getElem?_append_left (by omega)]
      exact tr3_get (by omega) c hz
    · have : i = n := by omega
      subst this
      rw [List.getElem?_append_right (by omega), hl, Nat.sub_self]
      rw [e] at hz
      rw [Option.some.inj hz]; rfl
theorem tr3_drop {w : Nat} {xs : List Str} {i : Nat} {z : Str} (hz : xs[i]? = some z) : (tr3 w xs xs.length).drop i = (z, (w : Int), (i : Int)) :: (tr3 w xs xs.length).drop (i + 1) := drop_get (tr3_get (Nat.le_refl _) (List.getElem?_eq_some_iff.mp hz).1 hz)
theorem mem_drop3 {w : Nat} {xs : List Str} {i : Nat} {a : Str × Int × Int} (h : a ∈ (tr3 w xs xs.length).drop i) : ∃ j : Nat, i ≤ j ∧ xs[j]? = some a.1 ∧ a.2.1 = (w : Int) ∧ a.2.2 = (j : Int) := by
  obtain ⟨k, hk⟩ := List.getElem?_of_mem h
  rw [List.getElem?_drop] at hk
  have hl : i + k < (tr3 w xs xs.length).length := (List.getElem?_eq_some_iff.mp hk).1
  rw [tr3_len w xs _ (Nat.le_refl _)] at hl
  have e := tr3_get (w := w) (Nat.le_refl _) hl (List.getElem?_eq_getElem hl)
  rw [hk] at e
  have e' := Option.some.inj e
  exact ⟨i + k, Nat.le_add_right _ _, by rw [e']; exact List.getElem?_eq_getElem hl, by rw [e'], by rw [e']⟩
structure M3 (xs ys : List Str) (i j : Nat) (out : List (Str × Int × Int)) : Prop where
  hi : i ≤ xs.length
  hj : j ≤ ys.length
  pw : out.Pairwise fun a b => le3 a b = true
  le : ∀ a ∈ out, ∀ b ∈ rest3 xs ys i j, le3 a b = true
  pm : (out ++ rest3 xs ys i j).Perm (tr3 0 xs xs.length ++ tr3 1 ys ys.length)
section
variable {xs ys : List Str} {i j : Nat} {out : List (Str × Int × Int)} {z : Str}
theorem M3.new : M3 xs ys 0 0 [] := ⟨Nat.zero_le _, Nat.zero_le _, .nil, fun _ h => (nomatch h), List.Perm.refl _⟩
theorem M3.take0 (hrx : Row xs) (hry : Row ys) (M : M3 xs ys i j out) (hz : xs[i]? = some z) (hc : ∀ y, ys[j]? = some y → lk z y ≤ 0) : M3 xs ys (i + 1) j (out ++ [(z, (0 : Int), (i : Int))]) := by
  have hil : i < xs.length := (List.getElem?_eq_some_iff.mp hz).1
  have ed := tr3_drop (w := 0) hz
  have er : rest3 xs ys i j = (z, (0 : Int), (i : Int)) :: rest3 xs ys (i + 1) j := by
    unfold rest3
    rw [ed]; rfl
  have ht : ∀ b ∈ rest3 xs ys (i + 1) j, le3 (z, (0 : Int), (i : Int)) b = true := fun b hb => by
    rw [le3_iff]
    have fin : lk z b.1 ≤ 0 → ((0 : Int) < b.2.1 ∨ ((0 : Int) = b.2.1 ∧ (i : Int) ≤ b.2.2)) → lk z b.1 = -1 ∨ z = b.1 ∧ ((0 : Int) < b.2.1 ∨ (0 : Int) = b.2.1 ∧ (i : Int) ≤ b.2.2) := fun h1 h2 => by
      have := lk_val z b.1
      by_cases c : lk z b.1 = 0
      · exact .inr ⟨lk_eq.mp c, h2⟩
      · exact .inl (by omega)
    rcases List.mem_append.mp hb with hb | hb
    · obtain ⟨k, h1, h2, h3, h4⟩ := mem_drop3 hb
      exact fin (row_at hrx (by omega) hz h2) (.inr ⟨h3.symm, by omega⟩)
    · obtain ⟨k, h1, h2, h3, h4⟩ := mem_drop3 hb
      have hkl : k < ys.length := (List.getElem?_eq_some_iff.mp h2).1
      have hyj : ys[j]? = some (ys[j]'(by omega)) := List.getElem?_eq_getElem _
      refine fin ?_ (.inl (by rw [h3]; decide))
      have h5 := hc _ hyj
      by_cases e : j = k
      · subst e
        rw [hyj] at h2
        rw [← Option.some.inj h2]; exact h5
      · exact lk_trans h5 (row_at hry (by omega) hyj h2)
  refine ⟨hil, M.hj, ?_, fun a ha b hb => ?_, ?_⟩
  · refine List.pairwise_append.mpr ⟨M.pw, List.pairwise_singleton _ _, fun a ha b hb => ?_⟩
    rw [List.mem_singleton.mp hb]
    exact M.le a ha _ (by rw [er]; exact List.mem_cons_self)
  · rcases List.mem_append.mp ha with ha | ha
    · exact M.le a ha b (by rw [er]; exact List.mem_cons_of_mem _ hb)
    · rw [List.mem_singleton.mp ha]; exact ht b hb
  · rw [List.append_assoc]
    have := M.pm
    rw [er] at this
    exact this
theorem M3.take1 (hrx : Row xs) (hry : Row ys) (M : M3 xs ys i j out) (hz : ys[j]? = some z) (hc : ∀ x, xs[i]? = some x → lk z x = -1) : M3 xs ys i (j + 1) (out ++ [(z, (1 : Int), (j : Int))]) := by
  have hjl : j < ys.length := (List.getElem?_eq_some_iff.mp hz).1
  have ed := tr3_drop (w := 1) hz
  have er : rest3 xs ys i j = (tr3 0 xs xs.length).drop i ++ (z, (1 : Int), (j : Int)) :: (tr3 1 ys ys.length).drop (j + 1) := by
    unfold rest3
    rw [ed]; rfl
  have ht : ∀ b ∈ rest3 xs ys i (j + 1), le3 (z, (1 : Int), (j : Int)) b = true := fun b hb => by
    rw [le3_iff]
    rcases List.mem_append.mp hb with hb | hb
    · obtain ⟨k, h1, h2, h3, h4⟩ := mem_drop3 hb
      have hkl : k < xs.length := (List.getElem?_eq_some_iff.mp h2).1
      have hxi : xs[i]? = some (xs[i]'(by omega)) := List.getElem?_eq_getElem _
      have h5 := hc _ hxi
      left
      show lk z b.1 = -1
      by_cases e : i = k
      · subst e
        rw [hxi] at h2
        rw [← Option.some.inj h2]; exact h5
      · have := lk_lt_of (x := z) (by omega) (row_at hrx (show i < k by omega) hxi h2) (.inl (by omega))
        have := lk_val z b.1
        omega
    · obtain ⟨k, h1, h2, h3, h4⟩ := mem_drop3 hb
      have h5 := row_at hry (show j < k by omega) hz h2
      have := lk_val z b.1
      by_cases c : lk z b.1 = 0
      · exact .inr ⟨lk_eq.mp c, .inr ⟨h3.symm, by rw [h4]; show (j : Int) ≤ k; omega⟩⟩
      · exact .inl (show lk z b.1 = -1 by omega)
  refine ⟨M.hi, hjl, ?_, fun a ha b hb => ?_, ?_⟩
  · refine List.pairwise_append.mpr ⟨M.pw, List.pairwise_singleton _ _, fun a ha b hb => ?_⟩
    rw [List.mem_singleton.mp hb]
    exact M.le a ha _ (by rw [er]; simp)
  · rcases List.mem_append.mp ha with ha | ha
    · refine M.le a ha b ?_
      rw [er]
      rcases List.mem_append.mp hb with hb | hb
      · exact List.mem_append_left _ hb
      · exact List.mem_append_right _ (List.mem_cons_of_mem _ hb)
    · rw [List.mem_singleton.mp ha]; exact ht b hb
  · have := M.pm
    rw [er] at this
    refine List.Perm.trans ?_ this
    rw [List.append_assoc]
    refine List.Perm.append_left out ?_
    show ((z, (1 : Int), (j : Int)) :: rest3 xs ys i (j + 1)).Perm _
    exact List.perm_middle.symm
theorem M3.done (M : M3 xs ys xs.length ys.length out) : out = srt3 xs ys := by
  refine srt3_of ?_ M.pw
  have := M.pm
  unfold rest3 at this
  rwa [List.drop_of_length_le (by rw [tr3_len _ _ _ (Nat.le_refl _)]; exact Nat.le_refl _), List.drop_of_length_le (by rw [tr3_len _ _ _ (Nat.le_refl _)]; exact Nat.le_refl _), List.append_nil, List.append_nil] at this
end
/-! ### sorted of many texts -/
def leZ (a b : Str) : Bool := decide (lk a b ≤ 0)
theorem leZ_trans : ∀ a b c, leZ a b = true → leZ b c = true → leZ a c = true := fun a b c h1 h2 => decide_eq_true (lk_trans (of_decide_eq_true h1) (of_decide_eq_true h2))
theorem leZ_tot : ∀ a b, (leZ a b || leZ b a) = true := fun a b => by
  have := lk_anti a b
  unfold leZ
  by_cases h : lk a b ≤ 0
  · rw [decide_eq_true h]; rfl
  · rw [decide_eq_true (show lk b a ≤ 0 by omega), Bool.or_true]
theorem leZ_lt (a b : Str) : (!PySem.W.dataLt (.str b) (.str a)) = leZ a b := by
  rw [PySem.W.dataLt_str]
  have h : (b.cps.toList < a.cps.toList) ↔ lk b a = -1 := lk_lt
  have hv := lk_val a b
  have ha := lk_anti a b
  unfold leZ
  rw [Bool.eq_iff_iff, Bool.not_eq_true', decide_eq_false_iff_not, decide_eq_true_eq, h]
  omega
theorem sorted_many {K : PySem.W.Frag} {H : Hp} {Q : VK} {p : Addr} {xs : List Str} (h : H p = some (.lst (xs.map V.str))) (q : ∀ ys : List Str, ys.Perm xs → Row ys → AtNew Q (.lst (ys.map V.str)) H) : gSorted K [.ref p] H Q := by
  have e1 : (xs.map fun z => (V.str z, PyData.str z)).map (·.1) = xs.map V.str := by rw [List.map_map]; rfl
  have e2 : (xs.map fun z => (V.str z, PyData.str z)).map (·.2) = xs.map PyData.str := by rw [List.map_map]; rfl
  refine gSorted.d ⟨p, xs.map fun z => (V.str z, PyData.str z), rfl, by rw [e1]; exact .inl (.inl h), fun a ha => ?_, ?_, ?_, fun a ha => ?_, ?_⟩
  · obtain ⟨z, _, rfl⟩ := List.mem_map.mp ha
    exact .str z
  · rw [e2]
    exact PySem.W.AllAlike.of fun a b => by simp [PySem.W.alike]
  · rw [e2]
    exact PySem.W.Sortable.others fun b => ⟨fun z => (nomatch z), fun xs z => nomatch z⟩
  · obtain ⟨z, _, rfl⟩ := List.mem_map.mp ha
    exact Nat.zero_le _
  · have e3 : ((xs.map fun z => (V.str z, PyData.str z)).mergeSort (PySem.W.dataLe false (·.2))).map (·.1) = (xs.mergeSort leZ).map V.str := by
      rw [← List.map_mergeSort (r := leZ) (s := PySem.W.dataLe false fun p : V × PyData => p.2) (f := fun z : Str => (V.str z, PyData.str z)) (fun a _ b _ => (leZ_lt a b).symm), List.map_map]; rfl
    rw [e3]
    refine q _ (List.mergeSort_perm _ _) ?_
    exact (List.pairwise_mergeSort leZ_trans leZ_tot xs).imp fun h => of_decide_eq_true h
end G

namespace G
open PySem PySem.Spec PyProof.Rows L2 TL RZ

/-! ### what goes out of runs, one behind the other -/
def flatF : List (List Int) → Nat → List (Int × Int)
  | [], _ => []
  | g :: F, p => g.map (fun n => (((p : Nat) : Int), n)) ++ flatF F (p + 1)
theorem flatF_app : ∀ (F G : List (List Int)) (p : Nat), flatF (F ++ G) p = flatF F p ++ flatF G (p + F.length)
  | [], G, p => rfl
  | g :: F, G, p => by
    show g.map _ ++ flatF (F ++ G) (p + 1) = (g.map _ ++ flatF F (p + 1)) ++ _
    rw [flatF_app F G (p + 1), List.append_assoc, List.length_cons, show p + 1 + F.length = p + (F.length + 1) by omega]
section
variable {zs : List Str} {h l : List Int} {c k p : Nat} {F : List (List Int)} {n : Int}
theorem flatF_put (hp : p = F.length ∨ p + 1 = F.length) : flatF (putG F p n) 0 = flatF F 0 ++ [((p : Int), n)] := by
  unfold putG
  rcases hp with hp | hp
  · rw [if_pos hp, flatF_app, Nat.zero_add, ← hp]; rfl
  · rw [if_neg (by omega)]
    rcases List.eq_nil_or_concat F with h | ⟨F', g, h⟩
    · rw [h] at hp; simp at hp
    · rw [List.concat_eq_append] at h
      subst h
      rw [List.length_append, List.length_cons, List.length_nil] at hp
      have e : p = F'.length := by omega
      subst e
      rw [apF_last, flatF_app, flatF_app, Nat.zero_add, List.append_assoc]
      show _ ++ ((g ++ [n]).map _ ++ []) = _ ++ ((g.map _ ++ []) ++ _)
      rw [List.append_nil, List.append_nil, List.map_append]; rfl
def popsA (zs : List Str) : Nat → List Int → List Int → Nat → Nat → List (Int × Int)
  | 0, _, _, _, _ => []
  | k + 1, h, l, c, p =>
    match minN zs (if h = [] then l else h) with
    | none => []
    | some n => (((if h = [] then p + 1 else p : Nat) : Int), n) ::
      (if c < zs.length then
        if lk (keyN zs c) (keyN zs n) = -1 then popsA zs k ((if h = [] then l else h).erase n) ((if h = [] then [] else l) ++ [(c : Int)]) (c + 1) (if h = [] then p + 1 else p)
        else popsA zs k ((if h = [] then l else h).erase n ++ [(c : Int)]) (if h = [] then [] else l) (c + 1) (if h = [] then p + 1 else p)
      else popsA zs k ((if h = [] then l else h).erase n) (if h = [] then [] else l) c (if h = [] then p + 1 else p))
theorem pops_end : popsA zs k [] [] c p = [] := by
  cases k with
  | zero => rfl
  | succ k => rfl
theorem pops_move : popsA zs k [] l c p = popsA zs k l [] c (p + 1) := by
  cases k with
  | zero => rfl
  | succ k =>
    by_cases e : l = []
    · subst e; rfl
    · conv => lhs; unfold popsA
      conv => rhs; unfold popsA
      rw [if_pos rfl, if_pos rfl, if_pos rfl, if_neg e, if_neg e, if_neg e]
theorem pops_step (hne : h ≠ []) (hm : IsLeast zs h n) : popsA zs (k + 1) h l c p = ((p : Int), n) :: (if c < zs.length then (if lk (keyN zs c) (keyN zs n) = -1 then popsA zs k (h.erase n) (l ++ [(c : Int)]) (c + 1) p else popsA zs k (h.erase n ++ [(c : Int)]) l (c + 1) p) else popsA zs k (h.erase n) l c p) := by
  conv => lhs; unfold popsA
  rw [if_neg hne, if_neg hne, if_neg hne, minN_of hm]
theorem flat_run : ∀ (k : Nat) {h l : List Int} {c : Nat} {F : List (List Int)} {p : Nat}, ((F.length = p ∧ (h = [] → l = [])) ∨ F.length = p + 1) → flatF (runA zs k h l c F p) 0 = flatF F 0 ++ popsA zs k h l c p
  | 0, _, _, _, F, _, _ => (List.append_nil _).symm
  | k + 1, h, l, c, F, p, hF => by
    have step : ∀ {h l : List Int} {p : Nat}, h ≠ [] → (p = F.length ∨ p + 1 = F.length) → flatF (runA zs (k + 1) h l c F p) 0 = flatF F 0 ++ popsA zs (k + 1) h l c p := fun {h l p} hne hp => by
      obtain ⟨n, hm⟩ := least_ex (zs := zs) hne
      have hlen := putG_len (F := F) (n := n) hp
      rw [runA_step hne hm, pops_step hne hm, show flatF F 0 ++ ((p : Int), n) :: (if c < zs.length then (if lk (keyN zs c) (keyN zs n) = -1 then popsA zs k (h.erase n) (l ++ [(c : Int)]) (c + 1) p else popsA zs k (h.erase n ++ [(c : Int)]) l (c + 1) p) else popsA zs k (h.erase n) l c p) = (flatF F 0 ++ [((p : Int), n)]) ++ (if c < zs.length then (if lk (keyN zs c) (keyN zs n) = -1 then popsA zs k (h.erase n) (l ++ [(c : Int)]) (c + 1) p else popsA zs k (h.erase n ++ [(c : Int)]) l (c + 1) p) else popsA zs k (h.erase n) l c p) from by rw [List.append_assoc]; rfl, ← flatF_put hp]
      split
      · split
        · exact flat_run k (.inr hlen)
        · exact flat_run k (.inr hlen)
      · exact flat_run k (.inr hlen)
    by_cases hh : h = []
    · subst hh
      by_cases hl : l = []
      · subst hl
        rw [runA_end, pops_end, List.append_nil]
      · rw [runA_move, pops_move]
        refine step hl (.inl ?_)
        rcases hF with ⟨_, h2⟩ | h1
        · exact absurd (h2 rfl) hl
        · exact h1.symm
    · refine step hh ?_
      rcases hF with ⟨h1, _⟩ | h1
      · exact .inl h1.symm
      · exact .inr h1.symm
def popsF (zs : List Str) (room : Nat) : List (Int × Int) := popsA zs zs.length (rgI 0 ((min room zs.length : Nat) : Int)) [] (min room zs.length) 0
theorem flat_runF (zs : List Str) (room : Nat) : flatF (runF zs room) 0 = popsF zs room := by
  have := flat_run (zs := zs) zs.length (h := rgI 0 ((min room zs.length : Nat) : Int)) (l := []) (c := min room zs.length) (F := []) (p := 0) (.inl ⟨rfl, fun _ => rfl⟩)
  exact this
end
/-! what the first things tell -/
theorem least_agree {zs zs' : List Str} {h : List Int} {m : Int} (hk : ∀ n ∈ h, keyN zs n = keyN zs' n) (hm : IsLeast zs h m) : IsLeast zs' h m := ⟨hm.1, fun b hb => by
  have := hm.2 b hb
  unfold kN at this ⊢
  rw [← hk b hb, ← hk m hm.1]; exact this⟩
theorem pops_pre {zs zs' : List Str} {m : Nat} (hag : ∀ n : Int, 0 ≤ n → n < (m : Int) → keyN zs n = keyN zs' n) (hm : m ≤ zs.length) (hm' : m ≤ zs'.length) : ∀ (d k k' : Nat) (h l : List Int) (c p : Nat), d = m - c → c ≤ m → (∀ n ∈ h ++ l, 0 ≤ n ∧ n < (c : Int)) → h.length + l.length + d ≤ k → h.length + l.length + d ≤ k' →
    (popsA zs k h l c p).take (d + 1) = (popsA zs' k' h l c p).take (d + 1) := by
  intro d
  induction d with
  | zero =>
    intro k k' h l c p hd hc hin hk hk'
    have step : ∀ {h l : List Int} {p : Nat}, h ≠ [] → (∀ n ∈ h, 0 ≤ n ∧ n < (c : Int)) → h.length ≤ k → h.length ≤ k' → (popsA zs k h l c p).take 1 = (popsA zs' k' h l c p).take 1 := fun {h l p} hne hin hk hk' => by
      have hp := List.length_pos_iff.mpr hne
      obtain ⟨n, hmn⟩ := least_ex (zs := zs) hne
      have hmn' := least_agree (fun n hn => by have := hin n hn; exact hag n this.1 (by omega)) hmn
      obtain ⟨k1, rfl⟩ : ∃ k1, k = k1 + 1 := ⟨k - 1, by omega⟩
      obtain ⟨k2, rfl⟩ : ∃ k2, k' = k2 + 1 := ⟨k' - 1, by omega⟩
      rw [pops_step hne hmn, pops_step hne hmn']; rfl
    by_cases hh : h = []
    · subst hh
      by_cases hl : l = []
      · subst hl
        rw [pops_end, pops_end]
      · rw [pops_move, pops_move]
        exact step hl (fun n hn => hin n (by simpa using hn)) (by simpa using hk) (by simpa using hk')
    · exact step hh (fun n hn => hin n (List.mem_append_left _ hn)) (by omega) (by omega)
  | succ d ih =>
    intro k k' h l c p hd hc hin hk hk'
    have step : ∀ {h l : List Int} {p : Nat}, h ≠ [] → (∀ n ∈ h ++ l, 0 ≤ n ∧ n < (c : Int)) → h.length + l.length + (d + 1) ≤ k → h.length + l.length + (d + 1) ≤ k' → (popsA zs k h l c p).take (d + 1 + 1) = (popsA zs' k' h l c p).take (d + 1 + 1) := fun {h l p} hne hin hk hk' => by
      have hp := List.length_pos_iff.mpr hne
      obtain ⟨n, hmn⟩ := least_ex (zs := zs) hne
      have hmn' := least_agree (fun n hn => by have := hin n (List.mem_append_left _ hn); exact hag n this.1 (by omega)) hmn
      obtain ⟨k1, rfl⟩ : ∃ k1, k = k1 + 1 := ⟨k - 1, by omega⟩
      obtain ⟨k2, rfl⟩ : ∃ k2, k' = k2 + 1 := ⟨k' - 1, by omega⟩
      obtain ⟨hn0, hnc⟩ := hin n (List.mem_append_left _ hmn.1)
      rw [pops_step hne hmn, pops_step hne hmn', if_pos (show c < zs.length by omega), if_pos (show c < zs'.length by omega), ← hag n hn0 (by omega), ← hag c (by omega) (by omega)]
      have hel : (h.erase n).length = h.length - 1 := List.length_erase_of_mem hmn.1
      rw [List.take_succ_cons, List.take_succ_cons]
      congr 1
      have he : ∀ x ∈ h.erase n ++ l, 0 ≤ x ∧ x < (c : Int) := fun x hx => by
        rcases List.mem_append.mp hx with hx | hx
        · exact hin x (List.mem_append_left _ (List.mem_of_mem_erase hx))
        · exact hin x (List.mem_append_right _ hx)
      split
      · refine ih k1 k2 (h.erase n) (l ++ [(c : Int)]) (c + 1) p (by omega) (by omega) (fun x hx => ?_) (by rw [List.length_append, hel]; show h.length - 1 + (l.length + 1) + d ≤ k1; omega) (by rw [List.length_append, hel]; show h.length - 1 + (l.length + 1) + d ≤ k2; omega)
        rw [← List.append_assoc] at hx
        rcases List.mem_append.mp hx with hx | hx
        · have := he x hx; omega
        · rw [List.mem_singleton.mp hx]; omega
      · refine ih k1 k2 (h.erase n ++ [(c : Int)]) l (c + 1) p (by omega) (by omega) (fun x hx => ?_) (by rw [List.length_append, hel]; show h.length - 1 + 1 + l.length + d ≤ k1; omega) (by rw [List.length_append, hel]; show h.length - 1 + 1 + l.length + d ≤ k2; omega)
        rcases List.mem_append.mp hx with hx | hx
        · rcases List.mem_append.mp hx with hx | hx
          · have := he x (List.mem_append_left _ hx); omega
          · rw [List.mem_singleton.mp hx]; omega
        · have := he x (List.mem_append_right _ hx); omega
    by_cases hh : h = []
    · subst hh
      by_cases hl : l = []
      · subst hl
        rw [pops_end, pops_end]
      · rw [pops_move, pops_move]
        exact step hl (fun n hn => hin n (by simpa using hn)) (by simpa using hk) (by simpa using hk')
    · exact step hh hin hk hk'
theorem popsF_pre {zs zs' : List Str} {m room : Nat} (hag : ∀ n : Int, 0 ≤ n → n < (m : Int) → keyN zs n = keyN zs' n) (hm : m ≤ zs.length) (hm' : m ≤ zs'.length) : (popsF zs room).take (m + 1 - room) = (popsF zs' room).take (m + 1 - room) := by
  by_cases hr : room ≤ m
  · have e1 : min room zs.length = room := by omega
    have e2 : min room zs'.length = room := by omega
    unfold popsF
    rw [e1, e2, show m + 1 - room = (m - room) + 1 by omega]
    refine pops_pre hag hm hm' _ _ _ _ _ _ _ rfl hr (fun n hn => ?_) ?_ ?_
    · rw [List.append_nil] at hn
      exact rgI_mem.mp hn
    · rw [rgI_len, List.length_nil]; omega
    · rw [rgI_len, List.length_nil]; omega
  · rw [show m + 1 - room = 0 by omega, List.take_zero, List.take_zero]
/-! keys that are likened alike -/
def LikeK (zs zs' : List Str) : Prop := zs'.length = zs.length ∧ ∀ a b : Int, 0 ≤ a → a < (zs.length : Int) → 0 ≤ b → b < (zs.length : Int) → lk (keyN zs' a) (keyN zs' b) = lk (keyN zs a) (keyN zs b)
theorem like_le {x y x' y' : Str} {n m : Int} (h : lk x' y' = lk x y) : leKI (x', n) (y', m) = leKI (x, n) (y, m) := by
  rw [Bool.eq_iff_iff, leKI_iff, leKI_iff]
  show lk x' y' = -1 ∨ (x' = y' ∧ _) ↔ lk x y = -1 ∨ (x = y ∧ _)
  rw [h, ← lk_eq (x := x') (y := y'), ← lk_eq (x := x) (y := y), h]
theorem runA_like {zs zs' : List Str} (hL : LikeK zs zs') : ∀ (k : Nat) (h l : List Int) (c : Nat) (F : List (List Int)) (p : Nat), (∀ n ∈ h ++ l, 0 ≤ n ∧ n < (c : Int)) → c ≤ zs.length → runA zs' k h l c F p = runA zs k h l c F p
  | 0, _, _, _, _, _, _, _ => rfl
  | k + 1, h, l, c, F, p, hin, hc => by
    have step : ∀ {h l : List Int} {p : Nat}, h ≠ [] → (∀ n ∈ h ++ l, 0 ≤ n ∧ n < (c : Int)) → runA zs' (k + 1) h l c F p = runA zs (k + 1) h l c F p := fun {h l p} hne hin => by
      obtain ⟨n, hm⟩ := least_ex (zs := zs) hne
      have hin' : ∀ x ∈ h, 0 ≤ x ∧ x < (zs.length : Int) := fun x hx => by have := hin x (List.mem_append_left _ hx); omega
      have hm' : IsLeast zs' h n := ⟨hm.1, fun b hb => by
        have h1 := hin' n hm.1
        have h2 := hin' b hb
        have := hm.2 b hb
        unfold kN at this ⊢
        rw [like_le (hL.2 n b h1.1 h1.2 h2.1 h2.2)]; exact this⟩
      have hn := hin' n hm.1
      rw [runA_step hne hm, runA_step hne hm', hL.1]
      have he : ∀ x ∈ h.erase n ++ l, 0 ≤ x ∧ x < (c : Int) := fun x hx => by
        rcases List.mem_append.mp hx with hx | hx
        · exact hin x (List.mem_append_left _ (List.mem_of_mem_erase hx))
        · exact hin x (List.mem_append_right _ hx)
      split
      · rename_i hcN
        rw [hL.2 c n (by omega) (by omega) hn.1 hn.2]
        split
        · refine runA_like hL k _ _ _ _ _ (fun x hx => ?_) hcN
          rw [← List.append_assoc] at hx
          rcases List.mem_append.mp hx with hx | hx
          · have := he x hx; omega
          · rw [List.mem_singleton.mp hx]; omega
        · refine runA_like hL k _ _ _ _ _ (fun x hx => ?_) hcN
          rcases List.mem_append.mp hx with hx | hx
          · rcases List.mem_append.mp hx with hx | hx
            · have := he x (List.mem_append_left _ hx); omega
            · rw [List.mem_singleton.mp hx]; omega
          · have := he x (List.mem_append_right _ hx); omega
      · exact runA_like hL k _ _ _ _ _ he hc
    by_cases hh : h = []
    · subst hh
      by_cases hl : l = []
      · subst hl
        rw [runA_end, runA_end]
      · rw [runA_move, runA_move]
        exact step hl fun n hn => hin n (by simpa using hn)
    · exact step hh hin
theorem runF_like {zs zs' : List Str} (hL : LikeK zs zs') (room : Nat) : runF zs' room = runF zs room := by
  unfold runF
  rw [hL.1]
  refine runA_like hL _ _ _ _ _ _ (fun n hn => ?_) (Nat.min_le_right _ _)
  rw [List.append_nil] at hn
  exact rgI_mem.mp hn
theorem stF_like {zs zs' : List Str} (hL : LikeK zs zs') : ∀ i, i ≤ zs.length → stF zs' i = stF zs i
  | 0, _ => rfl
  | i + 1, h => by
    unfold stF
    rw [stF_like hL i (by omega)]
    by_cases e : i = 0
    · rw [if_pos (.inl e), if_pos (.inl e)]
    · have := hL.2 (i : Int) ((i - 1 : Nat) : Int) (by omega) (by omega) (by omega) (by omega)
      unfold keyN at this
      rw [show ((i : Int)).toNat = i by omega, show (((i - 1 : Nat) : Int)).toNat = i - 1 by omega] at this
      rw [this]
theorem like_map {zs : List Str} {f : Str → Str} (h : ∀ x y, lk (f x) (f y) = lk x y) : LikeK zs (zs.map f) := by
  refine ⟨List.length_map .., fun a b ha0 ha1 hb0 hb1 => ?_⟩
  have key : ∀ a : Int, 0 ≤ a → a < (zs.length : Int) → keyN (zs.map f) a = f (keyN zs a) := fun a h0 h1 => by
    have := keyN_at h0 h1
    unfold keyN at this ⊢
    rw [List.getD_eq_getElem?_getD, List.getElem?_map, this]; rfl
  rw [key a ha0 ha1, key b hb0 hb1, h]
theorem cmpL_app : ∀ p xs ys : List Nat, cmpL (p ++ xs) (p ++ ys) = cmpL xs ys
  | [], _, _ => rfl
  | c :: p, xs, ys => by
    show (if c = c then cmpL (p ++ xs) (p ++ ys) else if c < c then -1 else 1) = _
    rw [if_pos rfl]
    exact cmpL_app p xs ys
theorem lk_ahead (a x y : Str) : lk (a ++ x) (a ++ y) = lk x y := by
  unfold lk
  rw [tl_append, tl_append, cmpL_app]
def dblL (xs : List Nat) : List Nat := (xs.map fun c => [c, c]).flatten
theorem cmpL_dbl : ∀ xs ys : List Nat, cmpL (dblL xs) (dblL ys) = cmpL xs ys
  | [], [] => rfl
  | [], _ :: _ => rfl
  | _ :: _, [] => rfl
  | x :: xs, y :: ys => by
    show cmpL (x :: x :: dblL xs) (y :: y :: dblL ys) = cmpL (x :: xs) (y :: ys)
    have ih := cmpL_dbl xs ys
    by_cases e : x = y
    · subst e
      rw [show x :: x :: dblL xs = [x, x] ++ dblL xs from rfl, show x :: x :: dblL ys = [x, x] ++ dblL ys from rfl, cmpL_app, ih]
      exact (cmpL_app [x] xs ys).symm
    · unfold cmpL
      rw [if_neg e, if_neg e]
def dblS (z : Str) : Str := Txt.join (Str.ofString "") ((tl z).map fun c => Txt.mul ⟨#[c]⟩ 2)
theorem tl_dbl (z : Str) : tl (dblS z) = dblL (tl z) := by
  unfold dblS dblL
  rw [tl_join0 (by decide +kernel), List.map_map]
  refine congrArg List.flatten (List.map_congr_left fun c _ => ?_)
  show tl (Txt.mul ⟨#[c]⟩ 2) = _
  rw [tl_mul]; rfl
theorem lk_dbl (x y : Str) : lk (dblS x) (dblS y) = lk x y := by
  unfold lk
  rw [tl_dbl, tl_dbl, cmpL_dbl]
end G

namespace G
open PySem PySem.Spec PyProof.Rows L2 TL RZ

/-! ### runs by an invariant -/
def catG (f : List (List Int)) (g : List Int) : List (List Int) := if g = [] then f else f ++ [g]
theorem catG_snoc (f : List (List Int)) (g : List Int) (n : Int) : putG (catG f g) f.length n = catG f (g ++ [n]) := by
  unfold catG
  rw [putG_snoc, if_neg (by simp)]
theorem lk_tr {x y z : Str} (h1 : lk x y = -1) (h2 : lk y z = -1) : lk x z = -1 := by
  have := lk_lt_of (show lk x y ≤ 0 by omega) (show lk y z ≤ 0 by omega) (.inl (by omega))
  have := lk_val x z
  omega
section
variable {zs : List Str}
theorem run_ind {R : List Int → List Int → Nat → List (List Int) → List Int → Prop}
    (mv : ∀ {l : List Int} {c : Nat} {f : List (List Int)} {g : List Int}, l ≠ [] → R [] l c f g → g ≠ [] ∧ R l [] c (f ++ [g]) [])
    (lo : ∀ {h l : List Int} {c : Nat} {f : List (List Int)} {g : List Int} {n : Int}, IsLeast zs h n → (∀ x ∈ h ++ l, 0 ≤ x ∧ x < (c : Int)) → c < zs.length → lk (keyN zs c) (keyN zs n) = -1 → R h l c f g → R (h.erase n) (l ++ [(c : Int)]) (c + 1) f (g ++ [n]))
    (hi : ∀ {h l : List Int} {c : Nat} {f : List (List Int)} {g : List Int} {n : Int}, IsLeast zs h n → (∀ x ∈ h ++ l, 0 ≤ x ∧ x < (c : Int)) → c < zs.length → ¬ lk (keyN zs c) (keyN zs n) = -1 → R h l c f g → R (h.erase n ++ [(c : Int)]) l (c + 1) f (g ++ [n]))
    (dn : ∀ {h l : List Int} {c : Nat} {f : List (List Int)} {g : List Int} {n : Int}, IsLeast zs h n → (∀ x ∈ h ++ l, 0 ≤ x ∧ x < (c : Int)) → ¬ c < zs.length → R h l c f g → R (h.erase n) l c f (g ++ [n])) :
    ∀ (k : Nat) {h l : List Int} {c : Nat} {f : List (List Int)} {g : List Int}, h.length + l.length + (zs.length - c) ≤ k → (∀ x ∈ h ++ l, 0 ≤ x ∧ x < (c : Int)) → R h l c f g →
      ∃ c' f' g', runA zs k h l c (catG f g) f.length = catG f' g' ∧ R [] [] c' f' g'
  | 0, h, l, c, f, g, hk, hin, r => by
    have h1 : h = [] := List.length_eq_zero_iff.mp (by omega)
    have h2 : l = [] := List.length_eq_zero_iff.mp (by omega)
    subst h1; subst h2
    exact ⟨c, f, g, rfl, r⟩
  | k + 1, h, l, c, f, g, hk, hin, r => by
    have step : ∀ {h l : List Int} {f : List (List Int)} {g : List Int}, h ≠ [] → h.length + l.length + (zs.length - c) ≤ k + 1 → (∀ x ∈ h ++ l, 0 ≤ x ∧ x < (c : Int)) → R h l c f g →
        ∃ c' f' g', runA zs (k + 1) h l c (catG f g) f.length = catG f' g' ∧ R [] [] c' f' g' := fun {h l f g} hne hk hin r => by
      obtain ⟨n, hm⟩ := least_ex (zs := zs) hne
      have hel : (h.erase n).length = h.length - 1 := List.length_erase_of_mem hm.1
      have hp := List.length_pos_iff.mpr hne
      have he : ∀ x ∈ h.erase n ++ l, 0 ≤ x ∧ x < (c : Int) := fun x hx => by
        rcases List.mem_append.mp hx with hx | hx
        · exact hin x (List.mem_append_left _ (List.mem_of_mem_erase hx))
        · exact hin x (List.mem_append_right _ hx)
      rw [runA_step hne hm, catG_snoc]
      split
      · rename_i hc
        split
        · rename_i hl
          refine run_ind mv lo hi dn k ?_ (fun x hx => ?_) (lo hm hin hc hl r)
          · rw [List.length_append, hel]; show h.length - 1 + (l.length + 1) + (zs.length - (c + 1)) ≤ k; omega
          · rw [← List.append_assoc] at hx
            rcases List.mem_append.mp hx with hx | hx
            · have := he x hx; omega
            · rw [List.mem_singleton.mp hx]; omega
        · rename_i hl
          refine run_ind mv lo hi dn k ?_ (fun x hx => ?_) (hi hm hin hc hl r)
          · rw [List.length_append, hel]; show h.length - 1 + 1 + l.length + (zs.length - (c + 1)) ≤ k; omega
          · rcases List.mem_append.mp hx with hx | hx
            · rcases List.mem_append.mp hx with hx | hx
              · have := he x (List.mem_append_left _ hx); omega
              · rw [List.mem_singleton.mp hx]; omega
            · have := he x (List.mem_append_right _ hx); omega
      · rename_i hc
        refine run_ind mv lo hi dn k ?_ he (dn hm hin hc r)
        rw [hel]; omega
    by_cases hh : h = []
    · subst hh
      by_cases hl : l = []
      · subst hl
        rw [runA_end]
        exact ⟨c, f, g, rfl, r⟩
      · obtain ⟨h1, h2⟩ := mv hl r
        rw [runA_move]
        have := step (h := l) (l := []) (f := f ++ [g]) (g := []) hl (by simpa using hk) (fun x hx => hin x (by simpa using hx)) h2
        unfold catG at this ⊢
        rw [if_pos rfl, List.length_append] at this
        rw [if_neg h1]; exact this
    · exact step hh hk hin r
/-- the same from the beginning on -/
theorem runF_ind {R : List Int → List Int → Nat → List (List Int) → List Int → Prop}
    (mv : ∀ {l : List Int} {c : Nat} {f : List (List Int)} {g : List Int}, l ≠ [] → R [] l c f g → g ≠ [] ∧ R l [] c (f ++ [g]) [])
    (lo : ∀ {h l : List Int} {c : Nat} {f : List (List Int)} {g : List Int} {n : Int}, IsLeast zs h n → (∀ x ∈ h ++ l, 0 ≤ x ∧ x < (c : Int)) → c < zs.length → lk (keyN zs c) (keyN zs n) = -1 → R h l c f g → R (h.erase n) (l ++ [(c : Int)]) (c + 1) f (g ++ [n]))
    (hi : ∀ {h l : List Int} {c : Nat} {f : List (List Int)} {g : List Int} {n : Int}, IsLeast zs h n → (∀ x ∈ h ++ l, 0 ≤ x ∧ x < (c : Int)) → c < zs.length → ¬ lk (keyN zs c) (keyN zs n) = -1 → R h l c f g → R (h.erase n ++ [(c : Int)]) l (c + 1) f (g ++ [n]))
    (dn : ∀ {h l : List Int} {c : Nat} {f : List (List Int)} {g : List Int} {n : Int}, IsLeast zs h n → (∀ x ∈ h ++ l, 0 ≤ x ∧ x < (c : Int)) → ¬ c < zs.length → R h l c f g → R (h.erase n) l c f (g ++ [n]))
    {room : Nat} (r : R (rgI 0 ((min room zs.length : Nat) : Int)) [] (min room zs.length) [] []) : ∃ c f g, runF zs room = catG f g ∧ R [] [] c f g := by
  have := run_ind mv lo hi dn zs.length (h := rgI 0 ((min room zs.length : Nat) : Int)) (l := []) (c := min room zs.length) (f := []) (g := []) (by rw [rgI_len, List.length_nil]; omega) (fun x hx => by
    rw [List.append_nil] at hx
    exact rgI_mem.mp hx) r
  exact this
theorem catG_last {P : List Int → Prop} {f : List (List Int)} {g : List Int} (h : ∀ x ∈ f, P x) : ∀ i x, (catG f g)[i]? = some x → i + 1 < (catG f g).length → P x := fun i x hx hi => by
  unfold catG at hx hi
  split at hx
  · exact h x (List.mem_of_getElem? hx)
  · rename_i e
    rw [if_neg e, List.length_append] at hi
    rw [List.getElem?_append_left (by simp at hi; omega)] at hx
    exact h x (List.mem_of_getElem? hx)
theorem erase_len {h : List Int} {n : Int} (hn : n ∈ h) : (h.erase n).length + 1 = h.length := by
  have := List.length_erase_of_mem hn
  have hp := List.length_pos_of_mem hn
  omega
theorem ne_snoc {α : Type} (l : List α) (a : α) : l ++ [a] ≠ [] := by simp
/-- each run but the last has room number at least -/
theorem runF_long {room : Nat} (hr : 1 ≤ room) : ∀ i x, (runF zs room)[i]? = some x → i + 1 < (runF zs room).length → room ≤ x.length := by
  obtain ⟨c, f, g, e, _, h, _⟩ := runF_ind (zs := zs) (room := room) (R := fun h l c f g => (c < zs.length → h.length + l.length = room ∧ room ≤ g.length + h.length) ∧ (∀ x ∈ f, room ≤ x.length) ∧ (l ≠ [] → room ≤ g.length + h.length))
    (fun {l c f g} hl ⟨h1, h2, h3⟩ => by
      have := h3 hl
      rw [List.length_nil] at this
      refine ⟨fun z => by rw [z, List.length_nil] at this; omega, fun hc => ?_, fun x hx => ?_, fun z => absurd rfl z⟩
      · have := h1 hc
        simp only [List.length_nil] at this ⊢
        omega
      · rcases List.mem_append.mp hx with hx | hx
        · exact h2 x hx
        · rw [List.mem_singleton.mp hx]; omega)
    (fun {h l c f g n} hm hin hc hl ⟨h1, h2, h3⟩ => by
      have := erase_len hm.1
      have := h1 hc
      refine ⟨fun _ => ?_, h2, fun _ => ?_⟩
      · rw [List.length_append, List.length_append, List.length_singleton, List.length_singleton]; omega
      · rw [List.length_append, List.length_singleton]; omega)
    (fun {h l c f g n} hm hin hc hl ⟨h1, h2, h3⟩ => by
      have := erase_len hm.1
      have := h1 hc
      refine ⟨fun _ => ?_, h2, fun _ => ?_⟩
      · rw [List.length_append, List.length_append, List.length_singleton, List.length_singleton]; omega
      · rw [List.length_append, List.length_append, List.length_singleton, List.length_singleton]; omega)
    (fun {h l c f g n} hm hin hc ⟨h1, h2, h3⟩ => by
      have := erase_len hm.1
      refine ⟨fun z => absurd z hc, h2, fun z => ?_⟩
      have := h3 z
      rw [List.length_append, List.length_singleton]; omega)
    ⟨fun hc => by rw [rgI_len]; simp only [List.length_nil]; omega, fun x hx => (nomatch hx), fun z => absurd rfl z⟩
  rw [e]
  exact catG_last h
/-- of falling keys none is longer -/
theorem runF_short {room : Nat} (hr : 1 ≤ room) (hf : ∀ a b : Nat, a < b → b < zs.length → lk (keyN zs b) (keyN zs a) = -1) : ∀ x ∈ runF zs room, x.length ≤ room := by
  obtain ⟨c, f, g, e, _, h, h3⟩ := runF_ind (zs := zs) (room := room) (R := fun h l c f g => h.length + l.length ≤ room ∧ (∀ x ∈ f, x.length ≤ room) ∧ g.length + h.length ≤ room ∧ (l ≠ [] → g ≠ [] ∨ h ≠ []))
    (fun {l c f g} hl ⟨h1, h2, h3, h4⟩ => by
      refine ⟨(h4 hl).elim id fun z => absurd rfl z, ?_, fun x hx => ?_, ?_, fun z => absurd rfl z⟩
      · simpa using h1
      · rcases List.mem_append.mp hx with hx | hx
        · exact h2 x hx
        · rw [List.mem_singleton.mp hx]; simpa using h3
      · simpa using h1)
    (fun {h l c f g n} hm hin hc hl ⟨h1, h2, h3, h4⟩ => by
      have := erase_len hm.1
      refine ⟨?_, h2, ?_, fun _ => .inl (ne_snoc _ _)⟩
      · rw [List.length_append, List.length_singleton]; omega
      · rw [List.length_append, List.length_singleton]; omega)
    (fun {h l c f g n} hm hin hc hl ⟨h1, h2, h3, h4⟩ => by
      have hb := hin n (List.mem_append_left _ hm.1)
      have := hf n.toNat c (by omega) hc
      rw [show ((n.toNat : Nat) : Int) = n by omega] at this
      exact absurd this hl)
    (fun {h l c f g n} hm hin hc ⟨h1, h2, h3, h4⟩ => by
      have := erase_len hm.1
      refine ⟨by omega, h2, ?_, fun _ => .inl (ne_snoc _ _)⟩
      rw [List.length_append, List.length_singleton]; omega)
    ⟨by rw [rgI_len]; simp only [List.length_nil]; omega, fun x hx => (nomatch hx), by rw [rgI_len]; simp only [List.length_nil]; omega, fun z => absurd rfl z⟩
  rw [e]
  intro x hx
  unfold catG at hx
  split at hx
  · exact h x hx
  · rcases List.mem_append.mp hx with hx | hx
    · exact h x hx
    · rw [List.mem_singleton.mp hx]
      simpa using h3.1
/-- where nothing is less than one ahead, behind the room, there's one run at most -/
theorem runF_single {room : Nat} (hs : ∀ a b : Nat, a < b → room ≤ b → b < zs.length → ¬ lk (keyN zs b) (keyN zs a) = -1) : (runF zs room).length ≤ 1 := by
  obtain ⟨c, f, g, e, _, h, _⟩ := runF_ind (zs := zs) (room := room) (R := fun h l c f g => l = [] ∧ f = [] ∧ min room zs.length ≤ c)
    (fun {l c f g} hl ⟨h1, h2, h3⟩ => absurd h1 hl)
    (fun {h l c f g n} hm hin hc hl ⟨h1, h2, h3⟩ => by
      have hb := hin n (List.mem_append_left _ hm.1)
      have := hs n.toNat c (by omega) (by omega) hc
      rw [show ((n.toNat : Nat) : Int) = n by omega] at this
      exact absurd hl this)
    (fun {h l c f g n} hm hin hc hl ⟨h1, h2, h3⟩ => ⟨h1, h2, by omega⟩)
    (fun {h l c f g n} hm hin hc ⟨h1, h2, h3⟩ => ⟨h1, h2, h3⟩)
    ⟨rfl, rfl, Nat.le_refl _⟩
  rw [e, h]
  unfold catG
  split
  · exact Nat.zero_le _
  · exact Nat.le_refl _
theorem flatten_cat (f : List (List Int)) (g : List Int) : (catG f g).flatten = f.flatten ++ g := by
  unfold catG
  split
  · rename_i e; rw [e, List.append_nil]
  · rw [List.flatten_append]; simp
/-- each number once -/
theorem runF_perm {room : Nat} (hr : 1 ≤ room) : (runF zs room).flatten.Perm (rgI 0 (zs.length : Int)) := by
  obtain ⟨c, f, g, e, h1, h2, h3, _⟩ := runF_ind (zs := zs) (room := room) (R := fun h l c f g => (c < zs.length → h.length + l.length = room) ∧ c ≤ zs.length ∧ (f.flatten ++ g ++ h ++ l).Perm (rgI 0 (c : Int)) ∧ (l ≠ [] → g ≠ [] ∨ h ≠ []))
    (fun {l c f g} hl ⟨h1, h2, h3, h4⟩ => by
      refine ⟨(h4 hl).elim id fun z => absurd rfl z, fun hc => by have := h1 hc; simpa using this, h2, ?_, fun z => absurd rfl z⟩
      simpa using h3)
    (fun {h l c f g n} hm hin hc hl ⟨h1, h2, h3, h4⟩ => by
      have := erase_len hm.1
      refine ⟨fun _ => ?_, hc, ?_, fun _ => .inl (ne_snoc _ _)⟩
      · have := h1 hc
        rw [List.length_append, List.length_singleton]; omega
      · rw [rgI_succ (b := 0) (n := c) (by omega)]
        refine List.Perm.trans ?_ (List.Perm.append_right _ h3)
        have e : (n :: h.erase n).Perm h := (List.perm_cons_erase hm.1).symm
        have e2 : f.flatten ++ (g ++ [n]) ++ h.erase n ++ (l ++ [(c : Int)]) = f.flatten ++ g ++ (n :: h.erase n) ++ l ++ [(c : Int)] := by simp
        rw [e2]
        exact ((e.append_left _).append_right _).append_right _)
    (fun {h l c f g n} hm hin hc hl ⟨h1, h2, h3, h4⟩ => by
      have := erase_len hm.1
      refine ⟨fun _ => ?_, hc, ?_, fun _ => .inl (ne_snoc _ _)⟩
      · have := h1 hc
        rw [List.length_append, List.length_singleton]; omega
      · rw [rgI_succ (b := 0) (n := c) (by omega)]
        refine List.Perm.trans ?_ (List.Perm.append_right _ h3)
        have e : (n :: h.erase n).Perm h := (List.perm_cons_erase hm.1).symm
        have e2 : f.flatten ++ (g ++ [n]) ++ (h.erase n ++ [(c : Int)]) ++ l = f.flatten ++ g ++ (n :: h.erase n) ++ ([(c : Int)] ++ l) := by simp
        rw [e2, List.append_assoc _ l, ]
        exact (e.append_left _).append List.perm_append_comm)
    (fun {h l c f g n} hm hin hc ⟨h1, h2, h3, h4⟩ => by
      refine ⟨fun z => absurd z hc, h2, ?_, fun _ => .inl (ne_snoc _ _)⟩
      refine List.Perm.trans ?_ h3
      have e : (n :: h.erase n).Perm h := (List.perm_cons_erase hm.1).symm
      have e2 : f.flatten ++ (g ++ [n]) ++ h.erase n ++ l = f.flatten ++ g ++ (n :: h.erase n) ++ l := by simp
      rw [e2]
      exact (e.append_left _).append_right _)
    ⟨fun hc => by rw [rgI_len]; simp only [List.length_nil]; omega, Nat.min_le_right _ _, by simp, fun z => absurd rfl z⟩
  have hc : c = zs.length := by
    rcases Nat.lt_or_ge c zs.length with z | z
    · have := h1 z
      simp only [List.length_nil] at this; omega
    · omega
  subst hc
  rw [e, flatten_cat]
  simpa using h3
theorem runF_ne {room : Nat} : ∀ g ∈ runF zs room, g ≠ [] := fun g hg => (runF_good zs room g hg).1
theorem ordN_of {g : List Int} (hp : g.Perm (ordN zs)) (h : (g.map (kN zs)).Pairwise fun a b => ltKI a b = true) : g = ordN zs := by
  have h2 := ordN_rise zs
  rw [List.pairwise_map] at h h2
  refine List.Perm.eq_of_pairwise (le := fun a b => leKI (kN zs a) (kN zs b) = true) (fun a b _ _ x y => kN_inj (leKI_anti _ _ x y)) (h.imp fun h => ltKI_le h) (h2.imp fun h => ltKI_le h) hp
/-- one run is the list of all in order -/
theorem runF_ord {room : Nat} (hr : 1 ≤ room) (hne : zs ≠ []) (h1 : (runF zs room).length ≤ 1) : runF zs room = [ordN zs] := by
  have hp := runF_perm (zs := zs) hr
  have hl : 0 < zs.length := List.length_pos_iff.mpr hne
  cases e : runF zs room with
  | nil =>
    rw [e] at hp
    have := hp.length_eq
    rw [rgI_len] at this
    simp at this; omega
  | cons g F =>
    cases F with
    | cons g' F => rw [e] at h1; simp at h1
    | nil =>
      rw [e] at hp
      have hg := runF_good zs room g (by rw [e]; exact List.mem_cons_self)
      have hpg : g.Perm (ordN zs) := by
        have : g.Perm (rgI 0 (zs.length : Int)) := by simpa using hp
        exact this.trans (ordN_perm zs).symm
      rw [ordN_of hpg hg.2.2]

/-! ### where all stand -/
def inP (p : Nat) (g : List Int) : List (Int × Int) := g.map fun n => (((p : Nat) : Int), n)
theorem mem_inP {p : Nat} {g : List Int} {e : Int × Int} : e ∈ inP p g ↔ e.1 = (p : Int) ∧ e.2 ∈ g := by
  unfold inP
  rw [List.mem_map]
  constructor
  · rintro ⟨n, hn, rfl⟩; exact ⟨rfl, hn⟩
  · rintro ⟨h1, h2⟩; exact ⟨e.2, h2, by rw [← h1]⟩
theorem flatF_cat (f : List (List Int)) (g : List Int) : flatF (catG f g) 0 = flatF f 0 ++ inP f.length g := by
  unfold catG
  split
  · rename_i e; subst e; exact (List.append_nil _).symm
  · rw [flatF_app, Nat.zero_add]
    show _ ++ (inP _ g ++ []) = _
    rw [List.append_nil]
theorem flatF_mem_lt : ∀ {F : List (List Int)} {p : Nat} {e : Int × Int}, e ∈ flatF F p → (p : Int) ≤ e.1 ∧ e.1 < ((p + F.length : Nat) : Int)
  | [], _, _, h => nomatch h
  | g :: F, p, e, h => by
    rcases List.mem_append.mp h with h | h
    · have := (mem_inP (p := p) (g := g)).mp h
      rw [List.length_cons]; omega
    · have := flatF_mem_lt h
      rw [List.length_cons]; omega
def AllP (h l : List Int) (f : List (List Int)) (g : List Int) : List (Int × Int) := flatF f 0 ++ inP f.length g ++ inP f.length h ++ inP (f.length + 1) l
theorem mem_AllP {h l : List Int} {f : List (List Int)} {g : List Int} {e : Int × Int} : e ∈ AllP h l f g ↔ e ∈ flatF f 0 ∨ (e.1 = (f.length : Int) ∧ (e.2 ∈ g ∨ e.2 ∈ h)) ∨ (e.1 = ((f.length + 1 : Nat) : Int) ∧ e.2 ∈ l) := by
  unfold AllP
  rw [List.mem_append, List.mem_append, List.mem_append, mem_inP, mem_inP, mem_inP]
  constructor
  · rintro (((h | ⟨h, h'⟩) | ⟨h, h'⟩) | ⟨h, h'⟩)
    · exact .inl h
    · exact .inr (.inl ⟨h, .inl h'⟩)
    · exact .inr (.inl ⟨h, .inr h'⟩)
    · exact .inr (.inr ⟨h, h'⟩)
  · rintro (h | ⟨h, h' | h'⟩ | ⟨h, h'⟩)
    · exact .inl (.inl (.inl h))
    · exact .inl (.inl (.inr ⟨h, h'⟩))
    · exact .inl (.inr ⟨h, h'⟩)
    · exact .inr ⟨h, h'⟩
theorem AllP_step {h l : List Int} {f : List (List Int)} {g : List Int} {n : Int} (hn : n ∈ h) (hnd : h.Nodup) {e : Int × Int} : e ∈ AllP (h.erase n) l f (g ++ [n]) ↔ e ∈ AllP h l f g := by
  rw [mem_AllP, mem_AllP]
  have : (e.2 ∈ g ++ [n] ∨ e.2 ∈ h.erase n) ↔ (e.2 ∈ g ∨ e.2 ∈ h) := by
    rw [hnd.mem_erase_iff, List.mem_append, List.mem_singleton]
    constructor
    · rintro ((z | z) | z)
      · exact .inl z
      · exact .inr (z ▸ hn)
      · exact .inr z.2
    · rintro (z | z)
      · exact .inl (.inl z)
      · by_cases c : e.2 = n
        · exact .inl (.inr c)
        · exact .inr ⟨c, z⟩
  rw [this]
/-- like ones: the one behind is in no run ahead -/
def LikeOk (zs : List Str) (A : List (Int × Int)) : Prop := ∀ a ∈ A, ∀ b ∈ A, a.2 < b.2 → keyN zs a.2 = keyN zs b.2 → a.1 ≤ b.1
theorem likeok_new {A A' : List (Int × Int)} {c q : Int} (hA : LikeOk zs A) (hs : ∀ e, e ∈ A' ↔ e ∈ A ∨ e = (q, c)) (hc : ∀ e ∈ A, e.2 < c) (hq : ∀ e ∈ A, keyN zs e.2 = keyN zs c → e.1 ≤ q) : LikeOk zs A' := fun a ha b hb hab hk => by
  rcases (hs a).mp ha with ha | rfl
  · rcases (hs b).mp hb with hb | rfl
    · exact hA a ha b hb hab hk
    · exact hq a ha hk
  · rcases (hs b).mp hb with hb | rfl
    · have := hc b hb; omega
    · omega
theorem runF_likeok {room : Nat} : LikeOk zs (flatF (runF zs room) 0) := by
  obtain ⟨c, f, g, e, h1, h2, _, _, h3⟩ := runF_ind (zs := zs) (room := room) (R := fun h l c f g => (h ++ l).Nodup ∧ (∀ e ∈ AllP h l f g, e.2 < (c : Int)) ∧ (∀ y ∈ l, ∀ x ∈ h, lk (keyN zs y) (keyN zs x) = -1) ∧ (l ≠ [] → g ≠ [] ∨ h ≠ []) ∧ LikeOk zs (AllP h l f g))
    (fun {l c f g} hl ⟨h1, h2, h3, h4, h5⟩ => by
      have hg : g ≠ [] := (h4 hl).elim id fun z => absurd rfl z
      have e : ∀ e, e ∈ AllP l [] (f ++ [g]) [] ↔ e ∈ AllP [] l f g := fun e => by
        have ef : flatF (f ++ [g]) 0 = flatF f 0 ++ inP f.length g := by
          have := flatF_cat f g
          unfold catG at this
          rwa [if_neg hg] at this
        rw [mem_AllP, mem_AllP, ef, List.mem_append, mem_inP, List.length_append, List.length_singleton]
        constructor
        · rintro ((z | ⟨z, z'⟩) | ⟨z, z' | z'⟩ | ⟨z, z'⟩)
          · exact .inl z
          · exact .inr (.inl ⟨z, .inl z'⟩)
          · exact nomatch z'
          · exact .inr (.inr ⟨z, z'⟩)
          · exact nomatch z'
        · rintro (z | ⟨z, z' | z'⟩ | ⟨z, z'⟩)
          · exact .inl (.inl z)
          · exact .inl (.inr ⟨z, z'⟩)
          · exact nomatch z'
          · exact .inr (.inl ⟨z, .inr z'⟩)
      exact ⟨hg, by simpa using h1, fun x hx => h2 x ((e x).mp hx), fun _ z => (nomatch z), fun z => absurd rfl z, fun a ha b hb => h5 a ((e a).mp ha) b ((e b).mp hb)⟩)
    (fun {h l c f g n} hm hin hc hl ⟨h1, h2, h3, h4, h5⟩ => by
      have hnd : h.Nodup := (List.nodup_append.mp h1).1
      have hs : ∀ e, e ∈ AllP (h.erase n) (l ++ [(c : Int)]) f (g ++ [n]) ↔ e ∈ AllP h l f g ∨ e = (((f.length + 1 : Nat) : Int), (c : Int)) := fun e => by
        rw [← AllP_step hm.1 hnd, mem_AllP, mem_AllP, List.mem_append (s := l), List.mem_singleton]
        constructor
        · rintro (z | z | ⟨z, z' | z'⟩)
          · exact .inl (.inl z)
          · exact .inl (.inr (.inl z))
          · exact .inl (.inr (.inr ⟨z, z'⟩))
          · exact .inr (by rw [← z, ← z'])
        · rintro ((z | z | ⟨z, z'⟩) | rfl)
          · exact .inl z
          · exact .inr (.inl z)
          · exact .inr (.inr ⟨z, .inl z'⟩)
          · exact .inr (.inr ⟨rfl, .inr rfl⟩)
      refine ⟨?_, fun e he => ?_, fun y hy x hx => ?_, fun _ => .inl (ne_snoc _ _), likeok_new h5 hs h2 fun e he _ => ?_⟩
      · rw [← List.append_assoc]
        refine nodup_sn (h1.sublist (List.Sublist.append_right List.erase_sublist _)) fun z => ?_
        have : (c : Int) ∈ h ++ l := by
          rcases List.mem_append.mp z with z | z
          · exact List.mem_append_left _ (List.mem_of_mem_erase z)
          · exact List.mem_append_right _ z
        have := hin _ this
        omega
      · rcases (hs e).mp he with he | rfl
        · have := h2 e he; omega
        · show (c : Int) < ((c + 1 : Nat) : Int); omega
      · rcases List.mem_append.mp hy with hy | hy
        · exact h3 y hy x (List.mem_of_mem_erase hx)
        · rw [List.mem_singleton.mp hy]
          have := hm.2 x (List.mem_of_mem_erase hx)
          rw [leKI_iff] at this
          rcases this with z | ⟨z, _⟩
          · exact lk_tr hl z
          · have z : keyN zs n = keyN zs x := z
            rw [← z]; exact hl
      · rcases mem_AllP.mp he with he | ⟨he, _⟩ | ⟨he, _⟩
        · have := flatF_mem_lt he; omega
        · omega
        · omega)
    (fun {h l c f g n} hm hin hc hl ⟨h1, h2, h3, h4, h5⟩ => by
      have hnd : h.Nodup := (List.nodup_append.mp h1).1
      have hlc : ∀ y ∈ l, lk (keyN zs y) (keyN zs c) = -1 := fun y hy => by
        have h6 := h3 y hy n hm.1
        have h7 := lt_later (hin n (List.mem_append_left _ hm.1)).2 hl
        have h8 := ltKI_le h7
        rw [leKI_iff] at h8
        rcases h8 with z | ⟨z, _⟩
        · exact lk_tr h6 z
        · have z : keyN zs n = keyN zs c := z
          rw [← z]; exact h6
      have hs : ∀ e, e ∈ AllP (h.erase n ++ [(c : Int)]) l f (g ++ [n]) ↔ e ∈ AllP h l f g ∨ e = ((f.length : Int), (c : Int)) := fun e => by
        rw [← AllP_step hm.1 hnd, mem_AllP, mem_AllP, List.mem_append (s := h.erase n), List.mem_singleton]
        constructor
        · rintro (z | ⟨z, z' | z' | z'⟩ | z)
          · exact .inl (.inl z)
          · exact .inl (.inr (.inl ⟨z, .inl z'⟩))
          · exact .inl (.inr (.inl ⟨z, .inr z'⟩))
          · exact .inr (by rw [← z, ← z'])
          · exact .inl (.inr (.inr z))
        · rintro ((z | ⟨z, z' | z'⟩ | z) | rfl)
          · exact .inl z
          · exact .inr (.inl ⟨z, .inl z'⟩)
          · exact .inr (.inl ⟨z, .inr (.inl z')⟩)
          · exact .inr (.inr z)
          · exact .inr (.inl ⟨rfl, .inr (.inr rfl)⟩)
      refine ⟨?_, fun e he => ?_, fun y hy x hx => ?_, fun _ => .inl (ne_snoc _ _), likeok_new h5 hs h2 fun e he hk => ?_⟩
      · have h6 : (h.erase n ++ l ++ [(c : Int)]).Nodup := nodup_sn (h1.sublist (List.Sublist.append_right List.erase_sublist _)) fun z => by
          have : (c : Int) ∈ h ++ l := by
            rcases List.mem_append.mp z with z | z
            · exact List.mem_append_left _ (List.mem_of_mem_erase z)
            · exact List.mem_append_right _ z
          have := hin _ this
          omega
        refine (List.Perm.nodup_iff ?_).mp h6
        rw [List.append_assoc, List.append_assoc]
        exact List.Perm.append_left _ List.perm_append_comm
      · rcases (hs e).mp he with he | rfl
        · have := h2 e he; omega
        · show (c : Int) < ((c + 1 : Nat) : Int); omega
      · rcases List.mem_append.mp hx with hx | hx
        · exact h3 y hy x (List.mem_of_mem_erase hx)
        · rw [List.mem_singleton.mp hx]; exact hlc y hy
      · rcases mem_AllP.mp he with he | ⟨he, _⟩ | ⟨_, he⟩
        · have := flatF_mem_lt he; omega
        · omega
        · have := hlc _ he
          rw [hk] at this
          rw [lk_eq.mpr rfl] at this; omega)
    (fun {h l c f g n} hm hin hc ⟨h1, h2, h3, h4, h5⟩ => by
      have hnd : h.Nodup := (List.nodup_append.mp h1).1
      exact ⟨h1.sublist (List.Sublist.append_right List.erase_sublist _), fun e he => h2 e ((AllP_step hm.1 hnd).mp he), fun y hy x hx => h3 y hy x (List.mem_of_mem_erase hx), fun _ => .inl (ne_snoc _ _), fun a ha b hb => h5 a ((AllP_step hm.1 hnd).mp ha) b ((AllP_step hm.1 hnd).mp hb)⟩)
    (by
      refine ⟨by rw [List.append_nil]; exact rgI_nd _ _, fun e he => ?_, fun _ z => (nomatch z), fun z => absurd rfl z, fun a ha b hb _ _ => ?_⟩
      · rcases mem_AllP.mp he with he | ⟨_, he | he⟩ | ⟨_, he⟩
        · exact nomatch he
        · exact nomatch he
        · exact (rgI_mem.mp he).2
        · exact nomatch he
      · have hz : ∀ e ∈ AllP (rgI 0 ((min room zs.length : Nat) : Int)) [] [] [], e.1 = 0 := fun e he => by
          rcases mem_AllP.mp he with he | ⟨he, _⟩ | ⟨_, he⟩
          · exact nomatch he
          · exact he
          · exact nomatch he
        rw [hz a ha, hz b hb]; omega)
  rw [e, flatF_cat]
  have : AllP [] [] f g = flatF f 0 ++ inP f.length g := by
    unfold AllP
    show _ ++ [] ++ [] = _
    rw [List.append_nil, List.append_nil]
  rw [← this]; exact h3
end
end G

namespace G
open PySem PySem.Spec PyProof.Rows L2 TL RZ

/-! ### who stands where, walked -/
def leT (a b : Int × Str × Int) : Bool := !(if b.1 = a.1 then ltKI b.2 a.2 else decide (b.1 < a.1))
theorem leT_iff (a b : Int × Str × Int) : leT a b = true ↔ a.1 < b.1 ∨ (a.1 = b.1 ∧ leKI a.2 b.2 = true) := by
  unfold leT
  rw [Bool.not_eq_true']
  by_cases h : b.1 = a.1
  · rw [if_pos h]
    have : leKI a.2 b.2 = !ltKI b.2 a.2 := rfl
    rw [this, Bool.not_eq_true']
    exact ⟨fun z => .inr ⟨h.symm, z⟩, fun z => z.elim (fun z => by omega) fun z => z.2⟩
  · rw [if_neg h, decide_eq_false_iff_not]
    exact ⟨fun z => .inl (by omega), fun z => z.elim (fun z => by omega) fun z => absurd z.1.symm h⟩
theorem leT_trans : ∀ a b c, leT a b = true → leT b c = true → leT a c = true := fun a b c h1 h2 => by
  rw [leT_iff] at *
  rcases h1 with h1 | ⟨e1, h1⟩
  · rcases h2 with h2 | ⟨e2, h2⟩
    · exact .inl (by omega)
    · exact .inl (by omega)
  · rcases h2 with h2 | ⟨e2, h2⟩
    · exact .inl (by omega)
    · exact .inr ⟨by omega, leKI_trans _ _ _ h1 h2⟩
theorem leT_tot (a b : Int × Str × Int) : (leT a b || leT b a) = true := by
  rw [Bool.or_eq_true, leT_iff, leT_iff]
  have := leKI_total a.2 b.2
  rw [Bool.or_eq_true] at this
  rcases Int.lt_trichotomy a.1 b.1 with h | h | h
  · exact .inl (.inl h)
  · exact this.elim (fun z => .inl (.inr ⟨h, z⟩)) fun z => .inr (.inr ⟨h.symm, z⟩)
  · exact .inr (.inl h)
theorem leT_anti : ∀ a b, leT a b = true → leT b a = true → a = b := fun a b h1 h2 => by
  rw [leT_iff] at *
  rcases h1 with h1 | ⟨e1, h1⟩
  · rcases h2 with h2 | ⟨e2, _⟩ <;> omega
  · rcases h2 with h2 | ⟨_, h2⟩
    · omega
    · exact Prod.ext e1 (leKI_anti _ _ h1 h2)
theorem sorted_T {K : PySem.W.Frag} {B H : Hp} {Q : VK} {p : Addr} {vs : List V} {ts : List (Int × Str × Int)} (s : Same B H) (h : H p = some (.lst vs)) (hd : Dts B vs (ts.map encT)) (q : ∀ ys, Dts B ys ((ts.mergeSort leT).map encT) → AtNew Q (.lst ys) H) : gSorted K [.ref p] H Q :=
  sorted_D s h hd alike_T tup_T dep_T (fun a b => by rw [lt_T]; rfl) q
theorem srt_head {ts : List (Int × Str × Int)} {t : Int × Str × Int} (ht : t ∈ ts) (hl : ∀ a ∈ ts, leT t a = true) : (ts.mergeSort leT)[0]? = some t := by
  have hp := List.mergeSort_perm ts leT
  have hs := List.pairwise_mergeSort leT_trans leT_tot ts
  cases e : ts.mergeSort leT with
  | nil =>
    rw [e] at hp
    have := hp.mem_iff.mpr ht
    cases this
  | cons a r =>
    rw [e] at hp hs
    have ha := hl a (hp.mem_iff.mp List.mem_cons_self)
    rcases List.mem_cons.mp (hp.mem_iff.mpr ht) with z | z
    · rw [z]; rfl
    · rw [List.pairwise_cons] at hs
      rw [leT_anti _ _ ha (hs.1 _ z)]; rfl
/-- (number, place) as a triple -/
def trW (zs : List Str) (e : Int × Int) : Int × Str × Int := (e.2, kN zs e.1)
def stepW (zs : List Str) (W : List (Int × Int)) (c : Nat) (e : Int × Int) : List (Int × Int) :=
  if c < zs.length then (W.filter fun x => !decide (x.1 = e.2)) ++ [((c : Int), e.1 + if lk (keyN zs c) (keyN zs e.2) = -1 then 1 else 0)] else W.filter fun x => !decide (x.1 = e.2)
def okW (zs : List Str) : List (Int × Int) → Nat → List (Int × Int) → Prop
  | W, c, [] => W = [] ∧ c = zs.length
  | W, c, e :: L => (e.2, e.1) ∈ W ∧ (∀ x ∈ W, leT (trW zs (e.2, e.1)) (trW zs x) = true) ∧ (W.map (·.1)).Nodup ∧ W.length ≤ zs.length ∧ c ≤ zs.length ∧ (∀ x ∈ W, 0 ≤ x.1 ∧ x.1 < (c : Int) ∧ 0 ≤ x.2) ∧ okW zs (stepW zs W c e) (if c < zs.length then c + 1 else c) L
def outP (p : Nat) (h : List Int) : List (Int × Int) := h.map fun n => (n, ((p : Nat) : Int))
theorem mem_outP {p : Nat} {h : List Int} {e : Int × Int} : e ∈ outP p h ↔ e.2 = (p : Int) ∧ e.1 ∈ h := by
  unfold outP
  rw [List.mem_map]
  constructor
  · rintro ⟨n, hn, rfl⟩; exact ⟨rfl, hn⟩
  · rintro ⟨h1, h2⟩; exact ⟨e.1, h2, by rw [← h1]⟩
theorem outP_fst (p : Nat) (h : List Int) : (outP p h).map (·.1) = h := by
  unfold outP
  rw [List.map_map]
  exact (List.map_congr_left fun _ _ => rfl).trans (List.map_id _)
theorem filter_out {p : Nat} {n : Int} : ∀ {h : List Int}, h.Nodup → n ∈ h → (outP p h).filter (fun x => !decide (x.1 = n)) = outP p (h.erase n)
  | [], _, hn => nomatch hn
  | a :: h, hd, hn => by
    rw [List.nodup_cons] at hd
    show ((a, ((p : Nat) : Int)) :: outP p h).filter _ = _
    rw [List.filter_cons]
    by_cases e : a = n
    · subst e
      rw [if_neg (by simp), List.erase_cons_head, List.filter_eq_self.mpr]
      intro x hx
      have := (mem_outP.mp hx).2
      have : x.1 ≠ a := fun z => hd.1 (z ▸ this)
      simpa using this
    · rw [if_pos (by simpa using e), List.erase_cons_tail (by simpa using e), filter_out hd.2 ((List.mem_cons.mp hn).elim (fun z => absurd z.symm e) id)]
      rfl
theorem filter_none {p : Nat} {n : Int} {h : List Int} (hn : n ∉ h) : (outP p h).filter (fun x => !decide (x.1 = n)) = outP p h := by
  rw [List.filter_eq_self]
  intro x hx
  have := (mem_outP.mp hx).2
  have : x.1 ≠ n := fun z => hn (z ▸ this)
  simpa using this
theorem outP_snoc (p : Nat) (h : List Int) (c : Int) : outP p (h ++ [c]) = outP p h ++ [(c, (p : Int))] := by
  unfold outP; rw [List.map_append]; rfl
theorem nd_len : ∀ (l D : List Int), l.Nodup → (∀ x ∈ l, x ∈ D) → l.length ≤ D.length
  | [], _, _, _ => Nat.zero_le _
  | a :: l, D, hn, hs => by
    rw [List.nodup_cons] at hn
    have := erase_len (hs a List.mem_cons_self)
    have := nd_len l (D.erase a) hn.2 fun x hx => by
      refine (List.mem_erase_of_ne fun z => ?_).mpr (hs x (List.mem_cons_of_mem _ hx))
      rw [z] at hx
      exact hn.1 hx
    rw [List.length_cons]; omega
section
variable {zs : List Str}
theorem okW_pops : ∀ (k : Nat) {W : List (Int × Int)} {h l : List Int} {c p : Nat}, W.Perm (outP p h ++ outP (p + 1) l) → (h ++ l).Nodup → (∀ n ∈ h ++ l, 0 ≤ n ∧ n < (c : Int)) → c ≤ zs.length → (c < zs.length → h ++ l ≠ []) → h.length + l.length + (zs.length - c) ≤ k → okW zs W c (popsA zs k h l c p)
  | 0, W, h, l, c, p, hW, hnd, hin, hc, hne, hk => by
    have h1 : h = [] := List.length_eq_zero_iff.mp (by omega)
    have h2 : l = [] := List.length_eq_zero_iff.mp (by omega)
    subst h1; subst h2
    exact ⟨hW.eq_nil, by omega⟩
  | k + 1, W, h, l, c, p, hW, hnd, hin, hc, hne, hk => by
    have step : ∀ {W : List (Int × Int)} {h l : List Int} {p : Nat}, h ≠ [] → W.Perm (outP p h ++ outP (p + 1) l) → (h ++ l).Nodup → (∀ n ∈ h ++ l, 0 ≤ n ∧ n < (c : Int)) → h.length + l.length + (zs.length - c) ≤ k + 1 → okW zs W c (popsA zs (k + 1) h l c p) := fun {W h l p} hne hW hnd hin hk => by
      obtain ⟨n, hm⟩ := least_ex (zs := zs) hne
      have hel := erase_len hm.1
      have hn1 := List.nodup_append.mp hnd
      have hnl : n ∉ l := fun z => hn1.2.2 n hm.1 n z rfl
      have he : ∀ x ∈ h.erase n ++ l, 0 ≤ x ∧ x < (c : Int) := fun x hx => by
        rcases List.mem_append.mp hx with hx | hx
        · exact hin x (List.mem_append_left _ (List.mem_of_mem_erase hx))
        · exact hin x (List.mem_append_right _ hx)
      have hnd2 : (h.erase n ++ l).Nodup := hnd.sublist (List.Sublist.append_right List.erase_sublist _)
      have hcn : (c : Int) ∉ h.erase n ++ l := fun z => by have := he _ z; omega
      have hWp : ∀ x ∈ W, (x.2 = (p : Int) ∧ x.1 ∈ h) ∨ (x.2 = ((p + 1 : Nat) : Int) ∧ x.1 ∈ l) := fun x hx => by
        rcases List.mem_append.mp (hW.mem_iff.mp hx) with hx | hx
        · exact .inl (mem_outP.mp hx)
        · exact .inr (mem_outP.mp hx)
      have hWf : (W.map (·.1)).Perm (h ++ l) := by
        have := hW.map (·.1)
        rwa [List.map_append, outP_fst, outP_fst] at this
      have hlen : (h ++ l).length ≤ zs.length := by
        have := nd_len _ (rgI 0 (zs.length : Int)) hnd fun x hx => by
          have := hin x hx
          exact rgI_mem.mpr ⟨this.1, by omega⟩
        rw [rgI_len] at this; omega
      have hfil : (W.filter fun x => !decide (x.1 = n)).Perm (outP p (h.erase n) ++ outP (p + 1) l) := by
        have := hW.filter fun x => !decide (x.1 = n)
        rw [List.filter_append, filter_out hn1.1 hm.1, filter_none hnl] at this
        exact this
      rw [pops_step hne hm]
      refine ⟨hW.mem_iff.mpr (List.mem_append_left _ (mem_outP.mpr ⟨rfl, hm.1⟩)), fun x hx => ?_, hWf.nodup_iff.mpr hnd, ?_, hc, fun x hx => ?_, ?_⟩
      · rw [leT_iff]
        rcases hWp x hx with ⟨h1, h2⟩ | ⟨h1, _⟩
        · exact .inr ⟨h1.symm, hm.2 _ h2⟩
        · refine .inl ?_
          show (p : Int) < x.2
          omega
      · have := hWf.length_eq
        rw [List.length_map] at this; omega
      · rcases hWp x hx with ⟨h1, h2⟩ | ⟨h1, h2⟩
        · have := hin _ (List.mem_append_left _ h2); omega
        · have := hin _ (List.mem_append_right _ h2); omega
      · unfold stepW
        by_cases hcz : c < zs.length
        · rw [if_pos hcz, if_pos hcz, if_pos hcz]
          show okW zs (_ ++ [((c : Int), (p : Int) + if lk (keyN zs c) (keyN zs n) = -1 then 1 else 0)]) (c + 1) _
          by_cases hlt : lk (keyN zs c) (keyN zs n) = -1
          · rw [if_pos hlt, if_pos hlt]
            refine okW_pops k ?_ ?_ (fun x hx => ?_) hcz (fun _ z => ?_) ?_
            · rw [outP_snoc, ← List.append_assoc]
              exact hfil.append_right _
            · rw [← List.append_assoc]
              exact nodup_sn hnd2 hcn
            · rw [← List.append_assoc] at hx
              rcases List.mem_append.mp hx with hx | hx
              · have := he x hx; omega
              · rw [List.mem_singleton.mp hx]; omega
            · simp at z
            · rw [List.length_append, List.length_singleton]; omega
          · rw [if_neg hlt, if_neg hlt]
            refine okW_pops k ?_ ?_ (fun x hx => ?_) hcz (fun _ z => ?_) ?_
            · rw [outP_snoc, Int.add_zero, List.append_assoc]
              refine (hfil.append_right _).trans ?_
              rw [List.append_assoc]
              exact List.Perm.append_left _ List.perm_append_comm
            · have := nodup_sn hnd2 hcn
              refine (List.Perm.nodup_iff ?_).mp this
              rw [List.append_assoc, List.append_assoc]
              exact List.Perm.append_left _ List.perm_append_comm
            · rcases List.mem_append.mp hx with hx | hx
              · rcases List.mem_append.mp hx with hx | hx
                · have := he x (List.mem_append_left _ hx); omega
                · rw [List.mem_singleton.mp hx]; omega
              · have := he x (List.mem_append_right _ hx); omega
            · simp at z
            · rw [List.length_append, List.length_singleton]; omega
        · rw [if_neg hcz, if_neg hcz, if_neg hcz]
          exact okW_pops k hfil hnd2 he hc (fun z => absurd z hcz) (by omega)
    by_cases hh : h = []
    · subst hh
      by_cases hl : l = []
      · subst hl
        have : c = zs.length := by
          rcases Nat.lt_or_ge c zs.length with z | z
          · exact absurd rfl (hne z)
          · omega
        rw [pops_end]
        exact ⟨hW.eq_nil, this⟩
      · rw [pops_move]
        exact step hl (by simpa [outP] using hW) (by simpa using hnd) (fun n hn => hin n (by simpa using hn)) (by simpa using hk)
    · exact step hh hW hnd hin hk
theorem okW_runF {room : Nat} (hr : 1 ≤ room) : okW zs (outP 0 (rgI 0 ((min room zs.length : Nat) : Int))) (min room zs.length) (flatF (runF zs room) 0) := by
  rw [flat_runF]
  refine okW_pops _ ?_ ?_ (fun x hx => ?_) (by omega) (fun hc z => ?_) ?_
  · show List.Perm _ (_ ++ []); rw [List.append_nil]
  · rw [List.append_nil]; exact rgI_nd _ _
  · rw [List.append_nil] at hx; exact rgI_mem.mp hx
  · rw [List.append_nil] at z
    have := congrArg List.length z
    rw [rgI_len, List.length_nil] at this; omega
  · rw [rgI_len, List.length_nil]; omega
end
theorem Pu.keep {B0 H0 B H B' H' : Hp} (S : Pu B0 H0 B H) (S' : Pu B0 H0 B' H') (k : Same B B') : Pu B0 H0 B H' := ⟨S.kn, k.trans S'.sub, S'.old, S.fr⟩
def swpI (e : Int × Int) : Int × Int := (e.2, e.1)
theorem flatF_snd : ∀ (F : List (List Int)) (p : Nat), (flatF F p).map (·.2) = F.flatten
  | [], _ => rfl
  | g :: F, p => by
    show (inP p g ++ flatF F (p + 1)).map (·.2) = g ++ F.flatten
    rw [List.map_append, flatF_snd F (p + 1)]
    refine congrArg (· ++ _) ?_
    unfold inP
    rw [List.map_map]
    exact (List.map_congr_left fun _ _ => rfl).trans (List.map_id _)
theorem flatF_pre : ∀ (F : List (List Int)) (p i : Nat), ∃ L, flatF F p = flatF (F.take i) p ++ L
  | [], p, i => ⟨[], by rw [List.take_nil]; rfl⟩
  | g :: F, p, 0 => ⟨_, rfl⟩
  | g :: F, p, i + 1 => by
    obtain ⟨L, h⟩ := flatF_pre F (p + 1) i
    exact ⟨L, by
      show inP p g ++ flatF F (p + 1) = (inP p g ++ flatF (F.take i) (p + 1)) ++ L
      rw [h, List.append_assoc]⟩
theorem flatF_take {F : List (List Int)} {i : Nat} {g : List Int} (h : F[i]? = some g) : flatF (F.take (i + 1)) 0 = flatF (F.take i) 0 ++ inP i g := by
  have hi : i < F.length := (List.getElem?_eq_some_iff.mp h).1
  rw [List.take_succ, h, flatF_app, List.length_take, Nat.zero_add, show min i F.length = i by omega]
  show _ ++ (g.map _ ++ []) = _
  rw [List.append_nil]; rfl
end G

namespace G
open PySem PySem.Spec PyProof.Rows L2 TL RZ

/-! ### how far keys are alike with the one ahead -/
def alkT : List Str → List Int
  | x :: y :: r => (lc x y : Int) :: alkT (y :: r)
  | _ => []
def alk : List Str → List Int
  | [] => []
  | x :: r => 0 :: alkT (x :: r)
theorem alkT_at : ∀ {ys : List Str} {i : Nat} {a b : Str}, ys[i]? = some a → (ys.drop 1)[i]? = some b → (alkT ys)[i]? = some (lc a b : Int)
  | [], _, _, _, h, _ => by simp at h
  | [_], _, _, _, _, h => by simp at h
  | x :: y :: r, 0, a, b, h1, h2 => by
    have e1 := Option.some.inj h1
    have e2 := Option.some.inj h2
    rw [← e1, ← e2]; rfl
  | x :: y :: r, i + 1, a, b, h1, h2 => alkT_at (ys := y :: r) (i := i) (by simpa using h1) (by simpa using h2)
theorem alkT_len : ∀ ys : List Str, (alkT ys).length = ys.length - 1
  | [] => rfl
  | [_] => rfl
  | x :: y :: r => by
    show (alkT (y :: r)).length + 1 = _
    rw [alkT_len (y :: r)]; rfl
theorem alk_len (ys : List Str) : (alk ys).length = ys.length := by
  cases ys with
  | nil => rfl
  | cons x r => show (alkT (x :: r)).length + 1 = _; rw [alkT_len]; rfl
theorem alk_at : ∀ {ys : List Str} {i : Nat} {a b : Str}, ys[i]? = some a → ys[i + 1]? = some b → (alk ys)[i + 1]? = some (lc a b : Int)
  | [], _, _, _, h, _ => by simp at h
  | x :: r, i, a, b, h1, h2 => by
    show (alkT (x :: r))[i]? = _
    exact alkT_at h1 (by simpa using h2)
theorem alk_zero {ys : List Str} (h : 0 < ys.length) : (alk ys)[0]? = some 0 := by
  cases ys with
  | nil => exact absurd h (by decide)
  | cons x r => rfl
end G

namespace G
open PySem PySem.Spec PyProof.Rows L2 TL RZ

/-! ### methods and objects, where nothing is being shown -/
theorem RoomG.make {k : Nat} {A : Around} (r : RoomG (k + 1) A) (C : Addr) (us : List Value) (kw : List (Str × Value)) : RoomG k (A.under (.builtin "type.__call__" ⟨.ref C :: us, kw⟩)) :=
  ⟨r.toRoom.make C us kw, r.gd⟩
structure HasM (P : Program) (w : World) (K : PySem.W.Frag) (mg : Str → Option Value) (base : Heap) (k : Nat) (C : Addr) (m : Str) (ps : List Str) (sp : Sp) : Prop where
  ex : ∃ (f : Addr) (fd : FuncData), Meth K C m f ∧ Binds K fd ps [] ∧ FnG P w K mg base CX0 k f fd ps sp
structure HasI (P : Program) (w : World) (K : PySem.W.Frag) (mg : Str → Option Value) (base : Heap) (k : Nat) (C : Addr) (ps : List Str) (sp : Sp) : Prop where
  ex : ∃ (f : Addr) (fd : FuncData), Mk K C f ∧ Binds K fd ps [] ∧ FnG P w K mg base CX0 k f fd ps sp
section
variable {X : Cx} {k : Nat} {C : Addr} {x m : Str} {ps : List Str} {sp : Sp} {o e : Expr} {es : List Expr} {ta : TE} {t : TA} {p pos apos : Pos} {pl : Sem Bool} {K : PySem.W.Frag}
theorem pe_methH (h : HasM X.prog X.w X.K X.mg X.base k C m ps sp) (c : Cls X.K C) (hr : RoomG k X.A) (ho : PE X o ta) (ha : PA X (e :: es) t)
    (hst : starEach (e :: es) X.env = (false, eval e X.env) :: starEach es X.env := by rfl) (hpl : (backTo pos (starEach es X.env)).any (·.1) = false := by rfl)
    (ht : eval (.Call (.Attribute o m apos) (e :: es) [] pos) X.env = (do
      let ov ← eval o X.env
      standAt apos.atName
      let (f, first) ← holding [ov] (getMethod ov m pl)
      callWith pos f first (backTo pos (starEach (e :: es) X.env)) (backToKw pos (keywordEach [] X.env))) := by rfl) :
    PE X (.Call (.Attribute o m apos) (e :: es) [] pos) (tMeth C m sp [] E0 ta t) := by
  obtain ⟨f, fd, hm, hb, F⟩ := h
  refine ⟨fun pins s σ H Q I h => ?_⟩
  refine PySem.W.methodCall_KW (pl := pl) (thn (ho.run pins s σ H _ I h) fun u s1 ⟨x, H1, I1, rx, a, dx, fs, ex, ea, l, q⟩ => ?_) ht
  subst ex
  obtain rfl : u = Value.ref a := rx
  refine getmeth_ok I1 ea c hm l ?_
  refine PySem.W.callWith_K (first := [.ref a]) (h₀ := X.base) I.ok.mod.kin hm.kp (thn (ha.run pos pins s1 σ H1 _ I1 q) fun us s2 ⟨vs, H2, I2, r, q2⟩ => ⟨I2.kIn, ?_⟩) hst hpl
  exact run_fnG (us := .ref a :: us) (vs := .ref a :: vs) F hr hb .nil pass0 I2 (.cons rfl r) q2
theorem pe_methH0 (h : HasM X.prog X.w X.K X.mg X.base k C m ps sp) (c : Cls X.K C) (hr : RoomG k X.A) (ho : PE X o ta)
    (ht : eval (.Call (.Attribute o m apos) [] [] pos) X.env = (do
      let ov ← eval o X.env
      standAt apos.atName
      let (f, first) ← holding [ov] (getMethod ov m pl)
      callWith pos f first (backTo pos (starEach [] X.env)) (backToKw pos (keywordEach [] X.env))) := by rfl) :
    PE X (.Call (.Attribute o m apos) [] [] pos) (tMeth C m sp [] E0 ta tNil) := by
  obtain ⟨f, fd, hm, hb, F⟩ := h
  refine ⟨fun pins s σ H Q I h => ?_⟩
  refine PySem.W.methodCall_KW (pl := pl) (thn (ho.run pins s σ H _ I h) fun u s1 ⟨x, H1, I1, rx, a, dx, fs, ex, ea, l, q⟩ => ?_) ht
  subst ex
  obtain rfl : u = Value.ref a := rx
  refine getmeth_ok I1 ea c hm l ?_
  exact PySem.W.callWith_K0 (first := [.ref a]) I1.kIn hm.kp (run_fnG (us := [.ref a]) (vs := [.ref a]) F hr hb .nil pass0 I1 (.cons rfl .nil) q)
theorem run_makeG {CX : CXT} {f : Addr} {fd : FuncData} {dvs : List V} {ds : List Value} {E : XK} {pins : List (Addr × Obj)} {σ : L2.St} {H : Hp} {s : Shared} {Q : VK} {us : List Value} {vs : List V} (M : Mk X.K C f) (F : FnG X.prog X.w X.K X.mg X.base CX k f fd ps sp) (hr : RoomG (k + 1) X.A) (hb : Binds X.K fd ps ds) (hd : Vals dvs ds)
    (hx : Passes CX X E) (I : Inv X pins σ H s) (r : Vals vs us)
    (h : ∀ x dx, H x = none → H dx = none → dx ≠ x → sp (.ref x :: (vs ++ dvs)) (upd (upd H dx (.own x)) x (.ins C dx [])) (fun v H2 => v = .non ∧ Q (.ref x) H2) E) :
    wpAny (model X.prog X.w) X.A (call (.ref C) us) (EP X pins σ Q) X.xe s := by
  have hq := h (s.heap.objs.size + 1) s.heap.objs.size (I.hok.fresh (Nat.le_succ _)) (I.hok.fresh (Nat.le_refl _)) (Nat.ne_of_lt (Nat.lt_succ_self _))
  have I2 := Inv.made (C := C) I
  have r2 : Vals (V.ref (s.heap.objs.size + 1) :: (vs ++ dvs)) (Value.ref (s.heap.objs.size + 1) :: (us ++ ds)) := .cons rfl (r.append hd)
  have hl : (Value.ref (s.heap.objs.size + 1) :: us ++ ds).length = ps.length := by
    have e := r2.length
    rw [F.len _ _ _ _ hq] at e
    exact e.symm
  refine wpAny_call (make_map (f := f) I.kIn M.makes M.init (beq_iff_eq.mp M.fn) (codeAny_mono (F.run _ X.stack _ _ ⟨Value.ref (s.heap.objs.size + 1) :: us, []⟩ (Value.ref (s.heap.objs.size + 1) :: (us ++ ds)) _ _ E (hr.make C us [])
    (I2.env0.make C us []) (hb _ (Value.ref (s.heap.objs.size + 1) :: us) I2.kIn hl) r2 hq) fun r s' hq' => ?_))
  cases r with
  | error e => exact hx pins σ _ _ e s' I2 hq'
  | ok fl =>
    cases fl with
    | ret u =>
      obtain ⟨v, H', I3, rv, ev, q3⟩ := I2.after hq'
      subst ev
      exact ⟨rv, ⟨V.ref (s.heap.objs.size + 1), H', I3, rfl, q3⟩⟩
    | next => exact False.elim hq'
    | brk => exact False.elim hq'
    | cont => exact False.elim hq'
theorem pe_makeH (h : HasI X.prog X.w X.K X.mg X.base k C ps sp) (hm : X.mg x = some (.ref C)) (hr : RoomG (k + 1) X.A) (hg : Gl X x) (ha : PA X (e :: es) t) (hdb : (x == ("__debug__" : Str)) = false := by decide)
    (he : starEach (e :: es) X.env = (false, eval e X.env) :: starEach es X.env := by rfl) (hpl : (backTo pos (starEach es X.env)).any (·.1) = false := by rfl) : PE X (.Call (.Name x p) (e :: es) [] pos) (tMake C sp [] E0 t) := by
  obtain ⟨f, fd, M, hb, F⟩ := h
  refine ⟨fun pins s σ H Q I h => ?_⟩
  refine wpAny_Call_Name_kw (ld_glob I hg hm ?_ hdb)
  refine PySem.W.callWith_K (h₀ := X.base) I.ok.mod.kin M.kp (thn (ha.run pos pins s σ H _ I h) fun us s1 ⟨vs, H1, I1, r, q⟩ => ⟨I1.kIn, ?_⟩) he hpl
  exact run_makeG M F hr hb .nil pass0 I1 r q
theorem pe_makeH0 (h : HasI X.prog X.w X.K X.mg X.base k C ps sp) (hm : X.mg x = some (.ref C)) (hr : RoomG (k + 1) X.A) (hg : Gl X x) (hdb : (x == ("__debug__" : Str)) = false := by decide) : PE X (.Call (.Name x p) [] [] pos) (tMake C sp [] E0 tNil) := by
  obtain ⟨f, fd, M, hb, F⟩ := h
  refine ⟨fun pins s σ H Q I h => ?_⟩
  refine wpAny_Call_Name_kw (ld_glob I hg hm ?_ hdb)
  exact PySem.W.callWith_K0 I.kIn M.kp (run_makeG (us := []) M F hr hb .nil pass0 I .nil h)
theorem pe_fldK {f : Str} (he : PE X e ta) (hb : attributeBase e f X.env (eval e X.env) = eval e X.env) (hK : X.K = K := by rfl) : PE X (.Attribute e f pos) (tFld K ta f) := by subst hK; exact pe_fld he hb
theorem ps_fldK {f : Str} {value : Expr} {tv : TE} {pos' : Pos} (ha : PE X o ta) (hv : PE X value tv) (hs : swapsWith value (some (.Attribute o f pos')) pos.line X.env = pure false) (hK : X.K = K := by rfl) : PS X (.Assign [.Attribute o f pos'] value pos) (sFld K ta tv f) := by subst hK; exact ps_fld ha hv hs
theorem ps_fldaugK {f : Str} {value : Expr} {tv : TE} {tpos : Pos} {op : Operator} {rd : V → V → Hp → VK → Prop} (ha : PE X o ta) (hv : PE X value tv) (hop : InOp X op rd) (hK : X.K = K := by rfl) : PS X (.AugAssign (.Attribute o f tpos) op value pos) (sFldAug K ta tv rd f) := by subst hK; exact ps_fldaug ha hv hop
/-- what is never reached needs no rule -/
theorem ps_never {st : Stmt} : PS X st (fun _ _ _ => False) := ⟨fun _ _ _ _ _ _ h => h.elim⟩
theorem pss_never {st : List Stmt} : PSs X st (fun _ _ _ => False) := ⟨fun _ _ _ _ _ _ h => h.elim⟩
end
/-! ### steps -/
section
variable {K : PySem.W.Frag} {C a dx : Addr} {f m : Str} {v y : V} {fs : List (Str × V)} {H : Hp} {Q : VK} {σ : L2.St} {ta tv : TE} {t : TA} {sp : Sp} {D : Ends} {rd : V → V → Hp → VK → Prop}
def FldR (K : PySem.W.Frag) (f : Str) (Q : VK) (x : V) (H1 : Hp) : Prop := ∃ a C dx fs v, x = .ref a ∧ H1 a = some (.ins C dx fs) ∧ Cls K C ∧ NoAttr K C f ∧ fs.lookup f = some v ∧ Q v H1
theorem g_fld (h : ta σ H (FldR K f Q)) : tFld K ta f σ H Q := h
theorem fld_at (h : H a = some (.ins C dx fs)) (c : Cls K C) (n : NoAttr K C f) (l : fs.lookup f = some v) (q : Q v H) : FldR K f Q (.ref a) H := ⟨a, C, dx, fs, v, rfl, h, c, n, l, q⟩
def SetR (K : PySem.W.Frag) (f : Str) (D : Ends) (σ : L2.St) (y : V) (x : V) (H2 : Hp) : Prop := ∃ a C dx fs, x = .ref a ∧ H2 a = some (.ins C dx fs) ∧ Cls K C ∧ NoAttr K C f ∧ fs.length < 1000 ∧ D.nx σ (upd H2 a (.ins C dx (putF f y fs)))
def SetV (K : PySem.W.Frag) (ta : TE) (f : Str) (D : Ends) (σ : L2.St) (y : V) (H1 : Hp) : Prop := ta σ H1 (SetR K f D σ y)
theorem g_sfld (h : tv σ H (SetV K ta f D σ)) : sFld K ta tv f D σ H := h
theorem g_setV (h : ta σ H (SetR K f D σ y)) : SetV K ta f D σ y H := h
theorem setF_at {fs' : List (Str × V)} (h : H a = some (.ins C dx fs)) (c : Cls K C) (n : NoAttr K C f) (l : fs.length < 1000) (e : putF f y fs = fs') (q : D.nx σ (upd H a (.ins C dx fs'))) : SetR K f D σ y (.ref a) H := ⟨a, C, dx, fs, rfl, h, c, n, l, by rw [e]; exact q⟩
def FAug (K : PySem.W.Frag) (tv : TE) (rd : V → V → Hp → VK → Prop) (f : Str) (D : Ends) (σ : L2.St) (x : V) (H1 : Hp) : Prop := ∃ a C dx fs v, x = .ref a ∧ H1 a = some (.ins C dx fs) ∧ Cls K C ∧ NoAttr K C f ∧ fs.lookup f = some v ∧
  tv σ H1 fun y H2 => rd v y H2 fun z H3 => ∃ dx' fs', H3 a = some (.ins C dx' fs') ∧ fs'.length < 1000 ∧ D.nx σ (upd H3 a (.ins C dx' (putF f z fs')))
theorem g_faug (h : ta σ H (FAug K tv rd f D σ)) : sFldAug K ta tv rd f D σ H := h
def MetR (C : Addr) (m : Str) (sp : Sp) (t : TA) (σ : L2.St) (Q : VK) (x : V) (H1 : Hp) : Prop := ∃ a dx fs, x = .ref a ∧ H1 a = some (.ins C dx fs) ∧ fs.lookup m = none ∧ t σ H1 fun vs H2 => sp (x :: (vs ++ [])) H2 Q E0
theorem g_meth (h : ta σ H (MetR C m sp t σ Q)) : tMeth C m sp [] E0 ta t σ H Q := h
theorem met_at (h : H a = some (.ins C dx fs)) (l : fs.lookup m = none) (q : t σ H fun vs H2 => sp (.ref a :: (vs ++ [])) H2 Q E0) : MetR C m sp t σ Q (.ref a) H := ⟨a, dx, fs, rfl, h, l, q⟩
def MakR (C : Addr) (sp : Sp) (Q : VK) (vs : List V) (H1 : Hp) : Prop := ∀ x dx, H1 x = none → H1 dx = none → dx ≠ x → sp (.ref x :: (vs ++ [])) (upd (upd H1 dx (.own x)) x (.ins C dx [])) (fun v H2 => v = .non ∧ Q (.ref x) H2) E0
theorem g_make (h : t σ H (MakR C sp Q)) : tMake C sp [] E0 t σ H Q := h
end
end G

namespace G
open PySem PySem.Spec PyProof.Rows L2 TL RZ

/-! ### a tree of matches -/
/-- what a row sends: number, place, key -/
abbrev Thg := Int × Nat × Str
inductive Tr
  | lf (n : Int)
  | nd (l r : Tr) (s : Option Thg) (f : Nat)
def Tr.lv : Tr → List Int
  | .lf n => [n]
  | .nd l r _ _ => l.lv ++ r.lv
def Tr.ht : Tr → Nat
  | .lf _ => 0
  | .nd l r _ _ => max l.ht r.ht + 1
def fst2 : Option Thg → Option Thg → Option Thg
  | none, b => b
  | a, none => a
  | some a, some b => if lk a.2.2 b.2.2 > 0 then some b else some a
def snd2 : Option Thg → Option Thg → Option Thg
  | none, _ => none
  | _, none => none
  | some a, some b => if lk a.2.2 b.2.2 > 0 then some a else some b
def far2 : Option Thg → Option Thg → Nat
  | some a, some b => lc a.2.2 b.2.2
  | _, _ => 0
def both2 : Option Thg → Option Thg → Nat
  | some _, some _ => 1
  | _, _ => 0
def look2 : Option Thg → Option Thg → Nat
  | some a, some b => lc a.2.2 b.2.2 + 1
  | _, _ => 0
def wins (hd : Int → Option Thg) : Tr → Option Thg
  | .lf n => hd n
  | .nd l r _ _ => fst2 (wins hd l) (wins hd r)
def playT (hd : Int → Option Thg) : Tr → Tr
  | .lf n => .lf n
  | .nd l r _ _ => .nd (playT hd l) (playT hd r) (snd2 (wins hd l) (wins hd r)) (far2 (wins hd l) (wins hd r))
def likT (hd : Int → Option Thg) : Tr → Nat
  | .lf _ => 0
  | .nd l r _ _ => likT hd l + likT hd r + both2 (wins hd l) (wins hd r)
def lookT (hd : Int → Option Thg) : Tr → Nat
  | .lf _ => 0
  | .nd l r _ _ => lookT hd l + lookT hd r + look2 (wins hd l) (wins hd r)
/-- what a match keeps, told by what is sent to it -/
def OkT (hd : Int → Option Thg) : Tr → Prop
  | .lf _ => True
  | .nd l r s f => OkT hd l ∧ OkT hd r ∧ s = snd2 (wins hd l) (wins hd r) ∧ f = far2 (wins hd l) (wins hd r)
/-- matches on the way of n played again: what is sent up, how far it's alike with what went out, the tree, likenings, looks -/
structure Ag where
  th : Option Thg
  fr : Nat
  tr : Tr
  lik : Nat
  look : Nat
def comb (k : Bool) (a : Ag) (s : Option Thg) (f : Nat) (mk : Tr → Option Thg → Nat → Tr) : Ag :=
  match s with
  | none => ⟨a.th, a.fr, mk a.tr s f, a.lik, a.look⟩
  | some st =>
    match a.th with
    | none => ⟨some st, f, mk a.tr none 0, a.lik, a.look⟩
    | some t =>
      if a.fr = f then
        if lk t.2.2 st.2.2 < 0 ∨ (lk t.2.2 st.2.2 = 0 ∧ k = true) then ⟨some t, a.fr, mk a.tr (some st) (lc t.2.2 st.2.2), a.lik + 1, a.look + (lc t.2.2 st.2.2 - a.fr + 1)⟩
        else ⟨some st, f, mk a.tr (some t) (lc t.2.2 st.2.2), a.lik + 1, a.look + (lc t.2.2 st.2.2 - a.fr + 1)⟩
      else if f < a.fr then ⟨some t, a.fr, mk a.tr s f, a.lik + 1, a.look⟩
      else ⟨some st, f, mk a.tr (some t) a.fr, a.lik + 1, a.look⟩
theorem comb_no {k : Bool} {a : Ag} {st : Thg} {f : Nat} {mk : Tr → Option Thg → Nat → Tr} (h : a.th = none) : comb k a (some st) f mk = ⟨some st, f, mk a.tr none 0, a.lik, a.look⟩ := by
  unfold comb
  simp only [h]
theorem comb_so {k : Bool} {a : Ag} {st t : Thg} {f : Nat} {mk : Tr → Option Thg → Nat → Tr} (h : a.th = some t) : comb k a (some st) f mk =
      if a.fr = f then
        if lk t.2.2 st.2.2 < 0 ∨ (lk t.2.2 st.2.2 = 0 ∧ k = true) then ⟨some t, a.fr, mk a.tr (some st) (lc t.2.2 st.2.2), a.lik + 1, a.look + (lc t.2.2 st.2.2 - a.fr + 1)⟩
        else ⟨some st, f, mk a.tr (some t) (lc t.2.2 st.2.2), a.lik + 1, a.look + (lc t.2.2 st.2.2 - a.fr + 1)⟩
      else if f < a.fr then ⟨some t, a.fr, mk a.tr (some st) f, a.lik + 1, a.look⟩
      else ⟨some st, f, mk a.tr (some t) a.fr, a.lik + 1, a.look⟩ := by
  unfold comb
  simp only [h]
def againT (hd : Int → Option Thg) (fl : Nat) (n : Int) : Tr → Ag
  | .lf m => ⟨hd m, if (hd m).isSome then fl else 0, .lf m, 0, 0⟩
  | .nd l r s f => if n ∈ l.lv then comb true (againT hd fl n l) s f (fun l' => .nd l' r) else comb false (againT hd fl n r) s f (fun r' => .nd l r')
/-- how much that takes, by what is sent -/
def wayLik (hd : Int → Option Thg) (n : Int) : Tr → Nat
  | .lf _ => 0
  | .nd l r _ _ => if n ∈ l.lv then wayLik hd n l + both2 (wins hd l) (wins hd r) else wayLik hd n r + both2 (wins hd r) (wins hd l)
def look3 (ko : Str) : Option Thg → Option Thg → Nat
  | some a, some b => if lc a.2.2 ko = lc b.2.2 ko then lc a.2.2 b.2.2 - lc a.2.2 ko + 1 else 0
  | _, _ => 0
def wayLook (hd : Int → Option Thg) (ko : Str) (n : Int) : Tr → Nat
  | .lf _ => 0
  | .nd l r _ _ => if n ∈ l.lv then wayLook hd ko n l + look3 ko (wins hd l) (wins hd r) else wayLook hd ko n r + look3 ko (wins hd r) (wins hd l)

section
variable {hd hd' : Int → Option Thg} {T : Tr} {n : Int} {ko : Str}
theorem playT_lv : ∀ T : Tr, (playT hd T).lv = T.lv
  | .lf _ => rfl
  | .nd l r _ _ => by
    show (playT hd l).lv ++ (playT hd r).lv = _
    rw [playT_lv l, playT_lv r]; rfl
theorem playT_ht : ∀ T : Tr, (playT hd T).ht = T.ht
  | .lf _ => rfl
  | .nd l r _ _ => by
    show max (playT hd l).ht (playT hd r).ht + 1 = _
    rw [playT_ht l, playT_ht r]; rfl
theorem playT_wins {h2 : Int → Option Thg} : ∀ T : Tr, wins h2 (playT hd T) = wins h2 T
  | .lf _ => rfl
  | .nd l r _ _ => by
    show fst2 (wins h2 (playT hd l)) (wins h2 (playT hd r)) = _
    rw [playT_wins l, playT_wins r]; rfl
theorem playT_ok : ∀ T : Tr, OkT hd (playT hd T)
  | .lf _ => trivial
  | .nd l r _ _ => ⟨playT_ok l, playT_ok r, by rw [playT_wins, playT_wins], by rw [playT_wins, playT_wins]⟩
theorem wins_agree : ∀ {T : Tr}, (∀ m ∈ T.lv, hd' m = hd m) → wins hd' T = wins hd T
  | .lf m, h => h m List.mem_cons_self
  | .nd l r _ _, h => by
    show fst2 _ _ = fst2 _ _
    rw [wins_agree fun m hm => h m (List.mem_append_left _ hm), wins_agree fun m hm => h m (List.mem_append_right _ hm)]
theorem OkT_agree : ∀ {T : Tr}, (∀ m ∈ T.lv, hd' m = hd m) → OkT hd T → OkT hd' T
  | .lf m, _, _ => trivial
  | .nd l r _ _, h, o => by
    have h1 : ∀ m ∈ l.lv, hd' m = hd m := fun m hm => h m (List.mem_append_left _ hm)
    have h2 : ∀ m ∈ r.lv, hd' m = hd m := fun m hm => h m (List.mem_append_right _ hm)
    exact ⟨OkT_agree h1 o.1, OkT_agree h2 o.2.1, by rw [wins_agree h1, wins_agree h2]; exact o.2.2.1, by rw [wins_agree h1, wins_agree h2]; exact o.2.2.2⟩
theorem wins_mem (hn : ∀ m t, hd m = some t → t.1 = m) : ∀ {T : Tr} {t : Thg}, wins hd T = some t → t.1 ∈ T.lv
  | .lf m, t, h => by
    rw [hn m t h]; exact List.mem_cons_self
  | .nd l r _ _, t, h => by
    have h : fst2 (wins hd l) (wins hd r) = some t := h
    cases e1 : wins hd l with
    | none =>
      rw [e1] at h
      exact List.mem_append_right _ (wins_mem hn (show wins hd r = some t from h))
    | some a =>
      cases e2 : wins hd r with
      | none =>
        rw [e1, e2] at h
        rw [← Option.some.inj h]
        exact List.mem_append_left _ (wins_mem hn e1)
      | some b =>
        rw [e1, e2] at h
        have h : (if lk a.2.2 b.2.2 > 0 then some b else some a) = some t := h
        split at h
        · rw [← Option.some.inj h]; exact List.mem_append_right _ (wins_mem hn e2)
        · rw [← Option.some.inj h]; exact List.mem_append_left _ (wins_mem hn e1)
/-! two keys not less than a third -/
theorem far_lt {x y : Str} (hx : lk ko x ≤ 0) (hy : lk ko y ≤ 0) (h : lc y ko < lc x ko) : lk x y = -1 ∧ lc x y = lc y ko := by
  have h1 : ¬ lk y x ≤ 0 := fun z => by
    have := lc_mid hy z
    rw [lc_comm ko x, lc_comm ko y] at this; omega
  have ha := lk_anti x y
  have hv := lk_val x y
  have h2 : lk x y = -1 := by omega
  have := lc_mid hx (show lk x y ≤ 0 by omega)
  rw [lc_comm ko x, lc_comm ko y] at this
  exact ⟨h2, by omega⟩
theorem far_eq {x y : Str} (hx : lk ko x ≤ 0) (hy : lk ko y ≤ 0) (h : lc x ko = lc y ko) : lc x ko ≤ lc x y := by
  have ha := lk_anti x y
  by_cases z : lk x y ≤ 0
  · have := lc_mid hx z
    rw [lc_comm ko x, lc_comm ko y] at this; omega
  · have := lc_mid hy (show lk y x ≤ 0 by omega)
    rw [lc_comm ko x, lc_comm ko y, lc_comm y x] at this; omega
end
/-- what is sent again: a thing not less than the one that went out -/
structure AgOk (hd' : Int → Option Thg) (ko : Str) (n : Int) (T : Tr) (a : Ag) : Prop where
  th : a.th = wins hd' T
  tr : a.tr = playT hd' T
  fr : ∀ t, a.th = some t → a.fr = lc t.2.2 ko ∧ lk ko t.2.2 ≤ 0
  lik : a.lik = wayLik hd' n T
  look : a.look = wayLook hd' ko n T
section
variable {hd hd' : Int → Option Thg} {n : Int} {ko : Str} {pl fl : Nat}
theorem OkT_play : ∀ {T : Tr}, OkT hd T → playT hd T = T
  | .lf _, _ => rfl
  | .nd l r _ _, o => by
    show Tr.nd (playT hd l) (playT hd r) _ _ = _
    rw [OkT_play o.1, OkT_play o.2.1, ← o.2.2.1, ← o.2.2.2]
theorem again_ok (hn : ∀ m t, hd m = some t → t.1 = m) (hn' : ∀ m t, hd' m = some t → t.1 = m) (hag : ∀ m, m ≠ n → hd' m = hd m) (hfl : ∀ t, hd' n = some t → fl = lc t.2.2 ko ∧ lk ko t.2.2 ≤ 0) :
    ∀ (T : Tr), T.lv.Nodup → OkT hd T → wins hd T = some (n, pl, ko) → AgOk hd' ko n T (againT hd' fl n T)
  | .lf m, _, _, hw => by
    obtain rfl : n = m := hn m _ hw
    refine ⟨rfl, rfl, fun t ht => ?_, rfl, rfl⟩
    have ht : hd' n = some t := ht
    show (if (hd' n).isSome then fl else 0) = _ ∧ _
    rw [ht]
    exact hfl t ht
  | .nd l r s f, hnd, ok, hw => by
    have hw : fst2 (wins hd l) (wins hd r) = some (n, pl, ko) := hw
    have hnd' := List.nodup_append.mp (show (l.lv ++ r.lv).Nodup from hnd)
    obtain ⟨okl, okr, hs, hf⟩ := ok
    by_cases hl : n ∈ l.lv
    · have hr : n ∉ r.lv := fun z => hnd'.2.2 n hl n z rfl
      have agr : ∀ m ∈ r.lv, hd' m = hd m := fun m hm => hag m fun z => hr (z ▸ hm)
      have ewr := wins_agree agr
      have hwl : wins hd l = some (n, pl, ko) := by
        cases e1 : wins hd l with
        | none =>
          rw [e1] at hw
          exact absurd (wins_mem hn (show wins hd r = _ from hw)) hr
        | some a =>
          cases e2 : wins hd r with
          | none => rw [e1, e2] at hw; exact hw
          | some b =>
            rw [e1, e2] at hw
            have hw : (if lk a.2.2 b.2.2 > 0 then some b else some a) = some (n, pl, ko) := hw
            split at hw
            · rw [Option.some.inj hw] at e2
              exact absurd (wins_mem hn e2) hr
            · exact hw
      have A := again_ok hn hn' hag hfl l hnd'.1 okl hwl
      have er : playT hd' r = r := by
        have := OkT_play (OkT_agree agr okr); exact this
      unfold againT
      rw [if_pos hl]
      rw [hwl] at hs hf
      generalize againT hd' fl n l = a at A
      obtain ⟨A1, A2, A3, A4, A5⟩ := A
      have eT : playT hd' (.nd l r s f) = .nd a.tr r (snd2 a.th (wins hd r)) (far2 a.th (wins hd r)) := by
        show Tr.nd (playT hd' l) (playT hd' r) _ _ = _
        rw [er, ← A2, ← A1, ewr]
      have eW : wins hd' (.nd l r s f) = fst2 a.th (wins hd r) := by
        show fst2 (wins hd' l) (wins hd' r) = _
        rw [← A1, ewr]
      have eL : wayLik hd' n (.nd l r s f) = a.lik + both2 a.th (wins hd r) := by
        show (if n ∈ l.lv then _ else _) = _
        rw [if_pos hl, A4, ← A1, ewr]
      have eK : wayLook hd' ko n (.nd l r s f) = a.look + look3 ko a.th (wins hd r) := by
        show (if n ∈ l.lv then _ else _) = _
        rw [if_pos hl, A5, ← A1, ewr]
      cases e2 : wins hd r with
      | none =>
        rw [e2] at hs hf eT eW eL eK
        obtain rfl : s = none := hs
        refine ⟨?_, ?_, A3, ?_, ?_⟩
        · rw [eW]; cases e3 : a.th <;> (show a.th = _; rw [e3]; rfl)
        · rw [eT, hf]
          show Tr.nd a.tr r none _ = _
          cases e3 : a.th <;> rfl
        · rw [eL]; cases e3 : a.th <;> rfl
        · rw [eK]; cases e3 : a.th <;> rfl
      | some st =>
        rw [e2] at hs hf eT eW eL eK hw
        have hlt : ¬ lk ko st.2.2 > 0 := fun z => by
          have hw : fst2 (wins hd l) (some st) = some (n, pl, ko) := hw
          rw [hwl] at hw
          have hw : (if lk ko st.2.2 > 0 then some st else some (n, pl, ko)) = some (n, pl, ko) := hw
          rw [if_pos z] at hw
          rw [Option.some.inj hw] at e2
          exact hr (wins_mem hn e2)
        have hs : s = some st := by
          rw [hs]
          show (if lk ko st.2.2 > 0 then _ else some st) = _
          rw [if_neg hlt]
        have hf : f = lc st.2.2 ko := by
          rw [hf, lc_comm]; rfl
        subst hs
        have hst : lk ko st.2.2 ≤ 0 := by omega
        cases e3 : a.th with
        | none =>
          rw [e3] at eT eW eL eK
          rw [comb_no e3]
          exact ⟨eW.symm, eT.symm, fun t ht => by rw [← Option.some.inj ht]; exact ⟨hf, hst⟩, eL.symm, eK.symm⟩
        | some t =>
          rw [e3] at eT eW eL eK
          obtain ⟨hfr, htk⟩ := A3 t e3
          have eW : wins hd' (.nd l r (some st) f) = (if lk t.2.2 st.2.2 > 0 then some st else some t) := eW
          have eT : playT hd' (.nd l r (some st) f) = .nd a.tr r (if lk t.2.2 st.2.2 > 0 then some t else some st) (lc t.2.2 st.2.2) := eT
          have eL : wayLik hd' n (.nd l r (some st) f) = a.lik + 1 := eL
          have eK : wayLook hd' ko n (.nd l r (some st) f) = a.look + (if lc t.2.2 ko = lc st.2.2 ko then lc t.2.2 st.2.2 - lc t.2.2 ko + 1 else 0) := eK
          rw [← hfr, ← hf] at eK
          have hv := lk_val t.2.2 st.2.2
          rw [comb_so e3]
          by_cases hq : a.fr = f
          · rw [if_pos hq]
            rw [if_pos hq] at eK
            by_cases ho : lk t.2.2 st.2.2 < 0 ∨ (lk t.2.2 st.2.2 = 0 ∧ true = true)
            · rw [if_pos ho]
              rw [if_neg (show ¬ lk t.2.2 st.2.2 > 0 by omega)] at eW eT
              exact ⟨eW.symm, eT.symm, fun u hu => by rw [← Option.some.inj hu]; exact ⟨hfr, htk⟩, eL.symm, eK.symm⟩
            · rw [if_neg ho]
              rw [if_pos (show lk t.2.2 st.2.2 > 0 by rcases hv with z | z | z <;> simp [z] at ho ⊢)] at eW eT
              exact ⟨eW.symm, eT.symm, fun u hu => by rw [← Option.some.inj hu]; exact ⟨hf, hst⟩, eL.symm, eK.symm⟩
          · rw [if_neg hq]
            rw [if_neg hq, Nat.add_zero] at eK
            by_cases hg : f < a.fr
            · rw [if_pos hg]
              obtain ⟨g1, g2⟩ := far_lt htk hst (by omega)
              rw [if_neg (show ¬ lk t.2.2 st.2.2 > 0 by omega)] at eW eT
              rw [g2, ← hf] at eT
              exact ⟨eW.symm, eT.symm, fun u hu => by rw [← Option.some.inj hu]; exact ⟨hfr, htk⟩, eL.symm, eK.symm⟩
            · rw [if_neg hg]
              obtain ⟨g1, g2⟩ := far_lt hst htk (show lc t.2.2 ko < lc st.2.2 ko by omega)
              have ga := lk_anti st.2.2 t.2.2
              rw [if_pos (show lk t.2.2 st.2.2 > 0 by omega)] at eW eT
              rw [lc_comm, g2, ← hfr] at eT
              exact ⟨eW.symm, eT.symm, fun u hu => by rw [← Option.some.inj hu]; exact ⟨hf, hst⟩, eL.symm, eK.symm⟩
    · have hr : n ∈ r.lv := by
        have := wins_mem (T := .nd l r s f) hn hw
        rcases List.mem_append.mp this with z | z
        · exact absurd z hl
        · exact z
      have agl : ∀ m ∈ l.lv, hd' m = hd m := fun m hm => hag m fun z => hl (z ▸ hm)
      have ewl := wins_agree agl
      have hwr : wins hd r = some (n, pl, ko) := by
        cases e1 : wins hd l with
        | none => rw [e1] at hw; exact hw
        | some a =>
          cases e2 : wins hd r with
          | none =>
            rw [e1, e2] at hw
            rw [Option.some.inj hw] at e1
            exact absurd (wins_mem hn e1) hl
          | some b =>
            rw [e1, e2] at hw
            have hw : (if lk a.2.2 b.2.2 > 0 then some b else some a) = some (n, pl, ko) := hw
            split at hw
            · exact hw
            · rw [Option.some.inj hw] at e1
              exact absurd (wins_mem hn e1) hl
      have A := again_ok hn hn' hag hfl r hnd'.2.1 okr hwr
      have el : playT hd' l = l := by
        have := OkT_play (OkT_agree agl okl); exact this
      unfold againT
      rw [if_neg hl]
      rw [hwr] at hs hf
      generalize againT hd' fl n r = a at A
      obtain ⟨A1, A2, A3, A4, A5⟩ := A
      have eT : playT hd' (.nd l r s f) = .nd l a.tr (snd2 (wins hd l) a.th) (far2 (wins hd l) a.th) := by
        show Tr.nd (playT hd' l) (playT hd' r) _ _ = _
        rw [el, ← A2, ← A1, ewl]
      have eW : wins hd' (.nd l r s f) = fst2 (wins hd l) a.th := by
        show fst2 (wins hd' l) (wins hd' r) = _
        rw [← A1, ewl]
      have eL : wayLik hd' n (.nd l r s f) = a.lik + both2 a.th (wins hd l) := by
        show (if n ∈ l.lv then _ else _) = _
        rw [if_neg hl, A4, ← A1, ewl]
      have eK : wayLook hd' ko n (.nd l r s f) = a.look + look3 ko a.th (wins hd l) := by
        show (if n ∈ l.lv then _ else _) = _
        rw [if_neg hl, A5, ← A1, ewl]
      cases e2 : wins hd l with
      | none =>
        rw [e2] at hs hf eT eW eL eK
        obtain rfl : s = none := hs
        refine ⟨?_, ?_, A3, ?_, ?_⟩
        · rw [eW]; rfl
        · rw [eT, hf]; rfl
        · rw [eL]; cases e3 : a.th <;> rfl
        · rw [eK]; cases e3 : a.th <;> rfl
      | some st =>
        rw [e2] at hs hf eT eW eL eK hw
        have hlt : lk st.2.2 ko > 0 := by
          refine Decidable.byContradiction fun z => ?_
          rw [hwr] at hw
          have hw : (if lk st.2.2 ko > 0 then some (n, pl, ko) else some st) = some (n, pl, ko) := hw
          rw [if_neg z] at hw
          rw [Option.some.inj hw] at e2
          exact hl (wins_mem hn e2)
        have hs : s = some st := by
          rw [hs]
          show (if lk st.2.2 ko > 0 then some st else _) = _
          rw [if_pos hlt]
        have hf : f = lc st.2.2 ko := hf
        subst hs
        have hst : lk ko st.2.2 ≤ 0 := by have := lk_anti st.2.2 ko; omega
        cases e3 : a.th with
        | none =>
          rw [e3] at eT eW eL eK
          rw [comb_no e3]
          exact ⟨eW.symm, eT.symm, fun t ht => by rw [← Option.some.inj ht]; exact ⟨hf, hst⟩, eL.symm, eK.symm⟩
        | some t =>
          rw [e3] at eT eW eL eK
          obtain ⟨hfr, htk⟩ := A3 t e3
          have ga := lk_anti st.2.2 t.2.2
          have eW : wins hd' (.nd l r (some st) f) = (if lk st.2.2 t.2.2 > 0 then some t else some st) := eW
          have eT : playT hd' (.nd l r (some st) f) = .nd l a.tr (if lk st.2.2 t.2.2 > 0 then some st else some t) (lc st.2.2 t.2.2) := eT
          have eL : wayLik hd' n (.nd l r (some st) f) = a.lik + 1 := eL
          have eK : wayLook hd' ko n (.nd l r (some st) f) = a.look + (if lc t.2.2 ko = lc st.2.2 ko then lc t.2.2 st.2.2 - lc t.2.2 ko + 1 else 0) := eK
          rw [← hfr, ← hf] at eK
          rw [lc_comm] at eT
          have hv := lk_val t.2.2 st.2.2
          rw [comb_so e3]
          by_cases hq : a.fr = f
          · rw [if_pos hq]
            rw [if_pos hq] at eK
            by_cases ho : lk t.2.2 st.2.2 < 0 ∨ (lk t.2.2 st.2.2 = 0 ∧ false = true)
            · rw [if_pos ho]
              have ho : lk t.2.2 st.2.2 < 0 := ho.elim id fun z => nomatch z.2
              rw [if_pos (show lk st.2.2 t.2.2 > 0 by omega)] at eW eT
              exact ⟨eW.symm, eT.symm, fun u hu => by rw [← Option.some.inj hu]; exact ⟨hfr, htk⟩, eL.symm, eK.symm⟩
            · rw [if_neg ho]
              have ho : ¬ lk t.2.2 st.2.2 < 0 := fun z => ho (.inl z)
              rw [if_neg (show ¬ lk st.2.2 t.2.2 > 0 by omega)] at eW eT
              exact ⟨eW.symm, eT.symm, fun u hu => by rw [← Option.some.inj hu]; exact ⟨hf, hst⟩, eL.symm, eK.symm⟩
          · rw [if_neg hq]
            rw [if_neg hq, Nat.add_zero] at eK
            by_cases hg : f < a.fr
            · rw [if_pos hg]
              obtain ⟨g1, g2⟩ := far_lt htk hst (by omega)
              rw [if_pos (show lk st.2.2 t.2.2 > 0 by omega)] at eW eT
              rw [g2, ← hf] at eT
              exact ⟨eW.symm, eT.symm, fun u hu => by rw [← Option.some.inj hu]; exact ⟨hfr, htk⟩, eL.symm, eK.symm⟩
            · rw [if_neg hg]
              obtain ⟨g1, g2⟩ := far_lt hst htk (show lc t.2.2 ko < lc st.2.2 ko by omega)
              rw [if_neg (show ¬ lk st.2.2 t.2.2 > 0 by omega)] at eW eT
              rw [lc_comm, g2, ← hfr] at eT
              exact ⟨eW.symm, eT.symm, fun u hu => by rw [← Option.some.inj hu]; exact ⟨hf, hst⟩, eL.symm, eK.symm⟩
end
end G

namespace G
open PySem PySem.Spec PyProof.Rows L2 TL RZ

/-! ### rows by numbers, how far each has gone out -/
abbrev RowE := Int × List Str × Nat
def hdE (e : RowE) : Option Thg := (e.2.1[e.2.2]?).map fun z => (e.1, e.2.2, z)
def hdR (rw : List RowE) (n : Int) : Option Thg := match rw.find? fun e => decide (e.1 = n) with
  | some e => hdE e
  | none => none
def lstH (hd : Int → Option Thg) : List Int → Option Thg
  | [] => none
  | n :: ns => fst2 (hd n) (lstH hd ns)
def keysR (rw : List RowE) : List Int := rw.map (·.1)
def itE (e : RowE) : List (Str × Int × Int) := (List.range' e.2.2 (e.2.1.length - e.2.2)).map fun (i : Nat) => (e.2.1.getD i (Str.ofString ""), e.1, (i : Int))
def items (rw : List RowE) : List (Str × Int × Int) := rw.flatMap itE
def dueR (rw : List RowE) : List (Str × Int × Int) := (items rw).mergeSort le3
structure WfR (rw : List RowE) : Prop where
  up : (keysR rw).Pairwise (· < ·)
  row : ∀ e ∈ rw, Row e.2.1 ∧ e.2.2 ≤ e.2.1.length
/-- the row of n has sent one thing more -/
def stepR (rw : List RowE) (n : Int) : List RowE := rw.map fun e => if e.1 = n then (e.1, e.2.1, e.2.2 + 1) else e
theorem fst2_none (a : Option Thg) : fst2 a none = a := by cases a <;> rfl
theorem fst2_assoc (a b c : Option Thg) : fst2 (fst2 a b) c = fst2 a (fst2 b c) := by
  cases a with
  | none => rfl
  | some a =>
    cases b with
    | none => rfl
    | some b =>
      cases c with
      | none => rw [fst2_none, fst2_none]
      | some c =>
        show fst2 (if lk a.2.2 b.2.2 > 0 then some b else some a) (some c) = fst2 (some a) (if lk b.2.2 c.2.2 > 0 then some c else some b)
        have v1 := lk_val a.2.2 b.2.2
        have v2 := lk_val b.2.2 c.2.2
        have v3 := lk_val a.2.2 c.2.2
        have a1 := lk_anti a.2.2 b.2.2
        have a2 := lk_anti b.2.2 c.2.2
        have a3 := lk_anti a.2.2 c.2.2
        have t1 := lk_trans (x := a.2.2) (y := b.2.2) (z := c.2.2)
        have t2 := lk_lt_of (x := c.2.2) (y := b.2.2) (z := a.2.2)
        by_cases h1 : lk a.2.2 b.2.2 > 0
        · rw [if_pos h1]
          by_cases h2 : lk b.2.2 c.2.2 > 0
          · rw [if_pos h2]
            show (if lk b.2.2 c.2.2 > 0 then some c else some b) = (if lk a.2.2 c.2.2 > 0 then some c else some a)
            have := t2 (by omega) (by omega) (.inl (by omega))
            rw [if_pos h2, if_pos (by omega)]
          · rw [if_neg h2]
            show (if lk b.2.2 c.2.2 > 0 then some c else some b) = (if lk a.2.2 b.2.2 > 0 then some b else some a)
            rw [if_neg h2, if_pos h1]
        · rw [if_neg h1]
          by_cases h2 : lk b.2.2 c.2.2 > 0
          · rw [if_pos h2]
          · rw [if_neg h2]
            show (if lk a.2.2 c.2.2 > 0 then some c else some a) = (if lk a.2.2 b.2.2 > 0 then some b else some a)
            have := t1 (by omega) (by omega)
            rw [if_neg h1, if_neg (by omega)]
theorem lstH_app (hd : Int → Option Thg) : ∀ a b : List Int, lstH hd (a ++ b) = fst2 (lstH hd a) (lstH hd b)
  | [], b => rfl
  | n :: a, b => by
    show fst2 (hd n) (lstH hd (a ++ b)) = fst2 (fst2 (hd n) (lstH hd a)) (lstH hd b)
    rw [lstH_app hd a b, fst2_assoc]
theorem wins_lstH (hd : Int → Option Thg) : ∀ T : Tr, wins hd T = lstH hd T.lv
  | .lf n => (fst2_none _).symm
  | .nd l r _ _ => by
    show fst2 (wins hd l) (wins hd r) = lstH hd (l.lv ++ r.lv)
    rw [lstH_app, wins_lstH hd l, wins_lstH hd r]
theorem lstH_agree {hd hd' : Int → Option Thg} : ∀ {ns : List Int}, (∀ n ∈ ns, hd' n = hd n) → lstH hd' ns = lstH hd ns
  | [], _ => rfl
  | n :: ns, h => by
    show fst2 _ _ = fst2 _ _
    rw [h n List.mem_cons_self, lstH_agree fun m hm => h m (List.mem_cons_of_mem _ hm)]
theorem lstH_none {hd : Int → Option Thg} : ∀ {ns : List Int}, lstH hd ns = none ↔ ∀ n ∈ ns, hd n = none
  | [] => ⟨fun _ _ h => (nomatch h), fun _ => rfl⟩
  | n :: ns => by
    show fst2 (hd n) (lstH hd ns) = none ↔ _
    rw [List.forall_mem_cons, ← lstH_none (ns := ns)]
    cases h1 : hd n with
    | none => exact ⟨fun z => ⟨rfl, z⟩, fun z => z.2⟩
    | some a =>
      refine ⟨fun z => ?_, fun z => nomatch z.1⟩
      cases h2 : lstH hd ns with
      | none => rw [h2] at z; cases z
      | some b =>
        rw [h2] at z
        have z : (if lk a.2.2 b.2.2 > 0 then some b else some a) = none := z
        split at z <;> cases z
theorem lstH_some {hd : Int → Option Thg} : ∀ {ns : List Int} {t : Thg}, lstH hd ns = some t → (∃ n ∈ ns, hd n = some t) ∧ ∀ n ∈ ns, ∀ u, hd n = some u → lk t.2.2 u.2.2 ≤ 0
  | [], _, h => nomatch h
  | n :: ns, t, h => by
    have h : fst2 (hd n) (lstH hd ns) = some t := h
    cases h1 : hd n with
    | none =>
      rw [h1] at h
      obtain ⟨⟨m, hm, e⟩, h2⟩ := lstH_some (show lstH hd ns = some t from h)
      refine ⟨⟨m, List.mem_cons_of_mem _ hm, e⟩, fun k hk u hu => ?_⟩
      rcases List.mem_cons.mp hk with rfl | hk
      · rw [h1] at hu; cases hu
      · exact h2 k hk u hu
    | some a =>
      cases h2 : lstH hd ns with
      | none =>
        rw [h1, h2] at h
        obtain rfl : a = t := Option.some.inj h
        refine ⟨⟨n, List.mem_cons_self, h1⟩, fun k hk u hu => ?_⟩
        rcases List.mem_cons.mp hk with rfl | hk
        · rw [h1] at hu; rw [← Option.some.inj hu, lk_self]; exact Int.le_refl _
        · rw [lstH_none.mp h2 k hk] at hu; cases hu
      | some b =>
        rw [h1, h2] at h
        have h : (if lk a.2.2 b.2.2 > 0 then some b else some a) = some t := h
        obtain ⟨⟨m, hm, e⟩, h3⟩ := lstH_some h2
        have an := lk_anti a.2.2 b.2.2
        split at h
        · obtain rfl : b = t := Option.some.inj h
          refine ⟨⟨m, List.mem_cons_of_mem _ hm, e⟩, fun k hk u hu => ?_⟩
          rcases List.mem_cons.mp hk with rfl | hk
          · rw [h1] at hu; rw [← Option.some.inj hu]; omega
          · exact h3 k hk u hu
        · obtain rfl : a = t := Option.some.inj h
          refine ⟨⟨n, List.mem_cons_self, h1⟩, fun k hk u hu => ?_⟩
          rcases List.mem_cons.mp hk with rfl | hk
          · rw [h1] at hu; rw [← Option.some.inj hu, lk_self]; exact Int.le_refl _
          · exact lk_trans (by omega) (h3 k hk u hu)
/-- of like keys the least number -/
theorem lstH_first {hd : Int → Option Thg} (hn : ∀ m t, hd m = some t → t.1 = m) : ∀ {ns : List Int} {t : Thg}, ns.Pairwise (· < ·) → lstH hd ns = some t → ∀ n ∈ ns, ∀ u, hd n = some u → lk t.2.2 u.2.2 = -1 ∨ (lk t.2.2 u.2.2 = 0 ∧ t.1 ≤ u.1)
  | [], _, _, h => nomatch h
  | n :: ns, t, hp, h => by
    rw [List.pairwise_cons] at hp
    have hall := (lstH_some h).2
    have h : fst2 (hd n) (lstH hd ns) = some t := h
    have base : ∀ k ∈ n :: ns, ∀ u, hd k = some u → t.1 ≤ u.1 ∨ lk t.2.2 u.2.2 = -1 → lk t.2.2 u.2.2 = -1 ∨ (lk t.2.2 u.2.2 = 0 ∧ t.1 ≤ u.1) := fun k hk u hu z => by
      have := hall k hk u hu
      have := lk_val t.2.2 u.2.2
      rcases z with z | z
      · rcases this with y | y | y
        · exact .inl y
        · exact .inr ⟨y, z⟩
        · omega
      · exact .inl z
    intro k hk u hu
    cases h1 : hd n with
    | none =>
      rw [h1] at h
      rcases List.mem_cons.mp hk with rfl | hk
      · rw [h1] at hu; cases hu
      · exact lstH_first hn hp.2 (show lstH hd ns = some t from h) k hk u hu
    | some a =>
      have ha1 := hn _ _ h1
      have hu1 := hn _ _ hu
      cases h2 : lstH hd ns with
      | none =>
        rw [h1, h2] at h
        obtain rfl : a = t := Option.some.inj h
        rcases List.mem_cons.mp hk with e | hk
        · exact base k (by rw [e]; exact List.mem_cons_self) u hu (.inl (by omega))
        · rw [lstH_none.mp h2 k hk] at hu; cases hu
      | some b =>
        rw [h1, h2] at h
        have h : (if lk a.2.2 b.2.2 > 0 then some b else some a) = some t := h
        have an := lk_anti a.2.2 b.2.2
        have vn := lk_val a.2.2 b.2.2
        split at h
        · obtain rfl : b = t := Option.some.inj h
          rcases List.mem_cons.mp hk with e | hk
          · subst e
            rw [h1] at hu
            rw [← Option.some.inj hu]; exact .inl (by omega)
          · exact lstH_first hn hp.2 h2 k hk u hu
        · obtain rfl : a = t := Option.some.inj h
          refine base k hk u hu (.inl ?_)
          rcases List.mem_cons.mp hk with e | hk
          · omega
          · have := hp.1 k hk; omega
section
variable {rw : List RowE} {n : Int}
theorem hdR_cons (e : RowE) (rw : List RowE) (n : Int) : hdR (e :: rw) n = if e.1 = n then hdE e else hdR rw n := by
  unfold hdR
  by_cases h : e.1 = n
  · rw [List.find?_cons_of_pos (by simpa using h), if_pos h]
  · rw [List.find?_cons_of_neg (by simpa using h), if_neg h]
theorem hdE_fst {e : RowE} {t : Thg} (h : hdE e = some t) : t.1 = e.1 ∧ t.2.1 = e.2.2 ∧ e.2.1[e.2.2]? = some t.2.2 := by
  unfold hdE at h
  cases e2 : e.2.1[e.2.2]? with
  | none => rw [e2] at h; cases h
  | some z => rw [e2] at h; rw [← Option.some.inj h]; exact ⟨rfl, rfl, rfl⟩
theorem hdR_at : ∀ {rw : List RowE} {e : RowE}, (keysR rw).Pairwise (· < ·) → e ∈ rw → hdR rw e.1 = hdE e
  | [], _, _, h => nomatch h
  | a :: rw, e, hp, h => by
    have hp := List.pairwise_cons.mp (show (a.1 :: keysR rw).Pairwise (· < ·) from hp)
    rw [hdR_cons]
    rcases List.mem_cons.mp h with rfl | h
    · rw [if_pos rfl]
    · have := hp.1 e.1 (List.mem_map.mpr ⟨e, h, rfl⟩)
      rw [if_neg (by omega), hdR_at hp.2 h]
theorem hdR_mem : ∀ {rw : List RowE} {n : Int} {t : Thg}, hdR rw n = some t → ∃ e ∈ rw, e.1 = n ∧ hdE e = some t
  | [], _, _, h => nomatch h
  | a :: rw, n, t, h => by
    rw [hdR_cons] at h
    split at h
    · rename_i c; exact ⟨a, List.mem_cons_self, c, h⟩
    · obtain ⟨e, h1, h2⟩ := hdR_mem h
      exact ⟨e, List.mem_cons_of_mem _ h1, h2⟩
theorem hdR_fst {t : Thg} (h : hdR rw n = some t) : t.1 = n := by
  obtain ⟨e, _, h1, h2⟩ := hdR_mem h
  rw [(hdE_fst h2).1, h1]
theorem itE_cons {e : RowE} {z : Str} (h : e.2.1[e.2.2]? = some z) : itE e = (z, e.1, (e.2.2 : Int)) :: itE (e.1, e.2.1, e.2.2 + 1) := by
  have hl := (List.getElem?_eq_some_iff.mp h).1
  unfold itE
  rw [show e.2.1.length - e.2.2 = (e.2.1.length - (e.2.2 + 1)) + 1 by omega, List.range'_succ, List.map_cons, List.getD_eq_getElem?_getD, h]; rfl
theorem itE_nil {e : RowE} (h : e.2.1[e.2.2]? = none) : itE e = [] := by
  have := List.getElem?_eq_none_iff.mp h
  unfold itE
  rw [show e.2.1.length - e.2.2 = 0 by omega]; rfl
theorem itE_mem {e : RowE} {x : Str × Int × Int} (h : x ∈ itE e) : ∃ i : Nat, e.2.2 ≤ i ∧ e.2.1[i]? = some x.1 ∧ x.2.1 = e.1 ∧ x.2.2 = (i : Int) := by
  unfold itE at h
  obtain ⟨i, hi, rfl⟩ := List.mem_map.mp h
  rw [List.mem_range'_1] at hi
  refine ⟨i, hi.1, ?_, rfl, rfl⟩
  show e.2.1[i]? = some (e.2.1.getD i _)
  rw [List.getD_eq_getElem?_getD, List.getElem?_eq_getElem (by omega)]; rfl
theorem stepR_keys (rw : List RowE) (n : Int) : keysR (stepR rw n) = keysR rw := by
  unfold keysR stepR
  rw [List.map_map]
  refine List.map_congr_left fun e _ => ?_
  show (if e.1 = n then _ else e).1 = e.1
  split <;> rfl
theorem hdR_none_eq : (lstH (hdR rw) (keysR rw) = none) → (keysR rw).Pairwise (· < ·) → items rw = [] := fun h hp => by
  unfold items
  rw [List.flatMap_eq_nil_iff]
  intro e he
  have := lstH_none.mp h e.1 (List.mem_map.mpr ⟨e, he, rfl⟩)
  rw [hdR_at hp he] at this
  unfold hdE at this
  refine itE_nil ?_
  cases c : e.2.1[e.2.2]? with
  | none => rfl
  | some z => rw [c] at this; cases this
theorem stepR_id : ∀ {rw : List RowE}, n ∉ keysR rw → stepR rw n = rw
  | [], _ => rfl
  | e :: rw, h => by
    have h1 : e.1 ≠ n := fun z => h (by rw [← z]; exact List.mem_cons_self)
    show (if e.1 = n then _ else e) :: stepR rw n = _
    rw [if_neg h1, stepR_id fun z => h (List.mem_cons_of_mem _ z)]
theorem items_step : ∀ {rw : List RowE} {t : Thg}, (keysR rw).Pairwise (· < ·) → hdR rw n = some t → (items rw).Perm ((t.2.2, t.1, (t.2.1 : Int)) :: items (stepR rw n))
  | [], _, _, h => nomatch h
  | e :: rw, t, hp, h => by
    have hp := List.pairwise_cons.mp (show (e.1 :: keysR rw).Pairwise (· < ·) from hp)
    rw [hdR_cons] at h
    show (itE e ++ items rw).Perm (_ :: (itE (if e.1 = n then (e.1, e.2.1, e.2.2 + 1) else e) ++ items (stepR rw n)))
    split at h
    · rename_i c
      obtain ⟨h1, h2, h3⟩ := hdE_fst h
      rw [if_pos c, itE_cons h3, stepR_id (fun z => by have := hp.1 n z; omega), h1, h2]
      exact List.Perm.refl _
    · rename_i c
      rw [if_neg c]
      exact ((items_step hp.2 h).append_left _).trans List.perm_middle
theorem WfR.step {t : Thg} (W : WfR rw) (h : hdR rw n = some t) : WfR (stepR rw n) := by
  refine ⟨by rw [stepR_keys]; exact W.up, fun e he => ?_⟩
  obtain ⟨e0, he0, rfl⟩ := List.mem_map.mp he
  have := W.row e0 he0
  by_cases c : e0.1 = n
  · rw [if_pos c]
    refine ⟨this.1, ?_⟩
    rw [← c, hdR_at W.up he0] at h
    have := (List.getElem?_eq_some_iff.mp (hdE_fst h).2.2).1
    show e0.2.2 + 1 ≤ e0.2.1.length; omega
  · rw [if_neg c]; exact this
theorem row_le {ys : List Str} {i j : Nat} {x y : Str} (h : Row ys) (hij : i ≤ j) (hx : ys[i]? = some x) (hy : ys[j]? = some y) : lk x y ≤ 0 := by
  rcases Nat.lt_or_ge i j with c | c
  · obtain ⟨h1, e1⟩ := List.getElem?_eq_some_iff.mp hx
    obtain ⟨h2, e2⟩ := List.getElem?_eq_some_iff.mp hy
    rw [← e1, ← e2]
    exact List.pairwise_iff_getElem.mp h i j h1 h2 c
  · obtain rfl : i = j := by omega
    rw [hx] at hy
    rw [Option.some.inj hy, lk_self]; exact Int.le_refl _
theorem due_none (W : WfR rw) (h : lstH (hdR rw) (keysR rw) = none) : dueR rw = [] := by
  unfold dueR
  rw [hdR_none_eq h W.up, List.mergeSort_nil]
theorem due_some {t : Thg} (W : WfR rw) (h : lstH (hdR rw) (keysR rw) = some t) : dueR rw = (t.2.2, t.1, (t.2.1 : Int)) :: dueR (stepR rw t.1) := by
  obtain ⟨⟨n, hn, e⟩, hle⟩ := lstH_some h
  have hfi := lstH_first (fun m u hu => hdR_fst hu) W.up h
  have e1 := hdR_fst e
  rw [← e1] at e
  have hp := items_step W.up e
  have hs := List.pairwise_mergeSort le3_trans le3_tot (items (stepR rw t.1))
  have hm := List.mergeSort_perm (items (stepR rw t.1)) le3
  refine (PySem.W.Srt.the_of_perm le3 le3_trans le3_tot le3_anti ((hm.cons _).trans hp.symm) (List.pairwise_cons.mpr ⟨fun x hx => ?_, hs⟩)).symm
  have hx := hp.mem_iff.mpr (List.mem_cons_of_mem _ (hm.mem_iff.mp hx))
  unfold items at hx
  rw [List.mem_flatMap] at hx
  obtain ⟨r, hr, hx⟩ := hx
  obtain ⟨i, hi, hz, h1, h2⟩ := itE_mem hx
  obtain ⟨y, hy⟩ : ∃ y, r.2.1[r.2.2]? = some y := by
    have := (List.getElem?_eq_some_iff.mp hz).1
    exact ⟨_, List.getElem?_eq_getElem (by omega)⟩
  have hhd : hdR rw r.1 = some (r.1, r.2.2, y) := by
    rw [hdR_at W.up hr]
    unfold hdE
    rw [hy]; rfl
  have hf := hfi r.1 (List.mem_map.mpr ⟨r, hr, rfl⟩) _ hhd
  have hyx := row_le (W.row r hr).1 hi hy hz
  rw [le3_iff]
  show lk t.2.2 x.1 = -1 ∨ (t.2.2 = x.1 ∧ (t.1 < x.2.1 ∨ (t.1 = x.2.1 ∧ (t.2.1 : Int) ≤ x.2.2)))
  have hf : lk t.2.2 y = -1 ∨ (lk t.2.2 y = 0 ∧ t.1 ≤ r.1) := hf
  have hv := lk_val t.2.2 x.1
  rcases hf with z | ⟨z, z'⟩
  · exact .inl (by have := lk_lt_of (show lk t.2.2 y ≤ 0 by omega) hyx (.inl (by omega)); omega)
  · have hty : t.2.2 = y := lk_eq.mp z
    rw [← hty] at hyx
    have hv := lk_val t.2.2 x.1
    rcases hv with v | v | v
    · exact .inl v
    · refine .inr ⟨lk_eq.mp v, ?_⟩
      rcases Int.lt_or_eq_of_le z' with c | c
      · exact .inl (by omega)
      · refine .inr ⟨by omega, ?_⟩
        have : hdR rw t.1 = some (r.1, r.2.2, y) := by rw [c]; exact hhd
        rw [e] at this
        have := Option.some.inj this
        rw [this, h2]
        show (r.2.2 : Int) ≤ (i : Int); omega
    · omega
theorem due_len (rw : List RowE) : (dueR rw).length = (rw.map fun e => e.2.1.length - e.2.2).sum := by
  unfold dueR items
  rw [List.length_mergeSort, List.length_flatMap]
  congr 1
  refine List.map_congr_left fun e _ => ?_
  unfold itE
  rw [List.length_map, List.length_range']
end
end G

namespace G
open PySem PySem.Spec PyProof.Rows L2 TL RZ

/-! ### matches and merges in the heap -/
def encO : Option Thg → PyData
  | none => .none
  | some t => .tuple [.int t.1, .int (t.2.1 : Int), .str t.2.2]
def mtF (pb ps : Addr) (vs : V) (far : Int) : List (Str × V) := [("own_both", .ref pb), ("own_sides", .ref ps), ("own_stays", vs), ("own_far", .int far)]
def mgF (pr pg pa : Addr) (num : Int) (top win : V) (lik look : Int) : List (Str × V) := [("own_rows", .ref pr), ("own_gone", .ref pg), ("own_alikes", .ref pa), ("own_number", .int num), ("own_top", top), ("own_winner", win), ("own_likenings", .int lik), ("own_looks", .int look)]
structure TxtC (K : PySem.W.Frag) (mg : Str → Option Value) (CM CG : Addr) : Prop where
  cm : Cls K CM
  cg : Cls K CG
  mM : mg "Match" = some (.ref CM)
  mG : mg "Merge" = some (.ref CG)
  a1 : NoAttr K CM "own_both"
  a2 : NoAttr K CM "own_sides"
  a3 : NoAttr K CM "own_stays"
  a4 : NoAttr K CM "own_far"
  b1 : NoAttr K CG "own_rows"
  b2 : NoAttr K CG "own_gone"
  b3 : NoAttr K CG "own_alikes"
  b4 : NoAttr K CG "own_number"
  b5 : NoAttr K CG "own_top"
  b6 : NoAttr K CG "own_winner"
  b7 : NoAttr K CG "own_likenings"
  b8 : NoAttr K CG "own_looks"
inductive IsT (CM : Addr) (B H : Hp) : V → Tr → List Addr → Prop
  | lf (n : Int) : IsT CM B H .non (.lf n) []
  | nd {a dx pb p0 p1 ps : Addr} {v0 v1 vs : V} {l r : Tr} {s : Option Thg} {f : Nat} {V0 V1 : List Addr} :
    H a = some (.ins CM dx (mtF pb ps vs f)) → B pb = some (.tup [.ref p0, .ref p1]) → B p0 = some (.lst (l.lv.map V.int)) → B p1 = some (.lst (r.lv.map V.int)) → B ps = some (.lst [v0, v1]) →
    IsT CM B H v0 l V0 → IsT CM B H v1 r V1 → Dt B vs (encO s) → IsT CM B H (.ref a) (.nd l r s f) (a :: (V0 ++ V1))
section
variable {CM : Addr} {B H B' H' : Hp}
theorem IsT.mono : ∀ {v T V}, IsT CM B H v T V → Same B B' → (∀ q ∈ V, ∀ o, H q = some o → H' q = some o) → IsT CM B' H' v T V
  | _, _, _, .lf n, _, _ => .lf n
  | _, _, _, .nd h1 h2 h3 h4 h5 t0 t1 h6, k, hv => .nd (hv _ List.mem_cons_self _ h1) (k _ _ h2) (k _ _ h3) (k _ _ h4) (k _ _ h5)
    (t0.mono k fun q hq => hv q (List.mem_cons_of_mem _ (List.mem_append_left _ hq))) (t1.mono k fun q hq => hv q (List.mem_cons_of_mem _ (List.mem_append_right _ hq))) (h6.mono k)
theorem IsT.ins : ∀ {v T V}, IsT CM B H v T V → ∀ q ∈ V, ∃ dx fs, H q = some (.ins CM dx fs)
  | _, _, _, .nd h1 _ _ _ _ t0 t1 _, q, hq => by
    rcases List.mem_cons.mp hq with rfl | hq
    · exact ⟨_, _, h1⟩
    · rcases List.mem_append.mp hq with hq | hq
      · exact t0.ins q hq
      · exact t1.ins q hq
/-- objects that change are no longer known -/
def hid (Z : List Addr) (H : Hp) : Hp := fun q => if q ∈ Z then none else H q
theorem hid_in {Z : List Addr} {q : Addr} (h : q ∈ Z) : hid Z H q = none := if_pos h
theorem hid_out {Z : List Addr} {q : Addr} (h : q ∉ Z) : hid Z H q = H q := if_neg h
theorem hid_same (Z : List Addr) : Same (hid Z H) H := fun q o e => by
  by_cases h : q ∈ Z
  · rw [hid_in h] at e; cases e
  · rw [hid_out h] at e; exact e
mutual
theorem Dt.hid {Z : List Addr} (hV : ∀ q ∈ Z, (∀ xs, B q ≠ some (.lst xs)) ∧ ∀ xs, B q ≠ some (.tup xs)) : ∀ {v : V} {x : PyData}, Dt B v x → Dt (G.hid Z B) v x
  | _, _, .non => .non
  | _, _, .bl b => .bl b
  | _, _, .int i => .int i
  | _, _, .str z => .str z
  | _, _, .lst (p := p) h t => .lst (by rw [hid_out fun z => (hV _ z).1 _ h]; exact h) (t.hid hV)
  | _, _, .tup (p := p) h t => .tup (by rw [hid_out fun z => (hV _ z).2 _ h]; exact h) (t.hid hV)
theorem Dts.hid {Z : List Addr} (hV : ∀ q ∈ Z, (∀ xs, B q ≠ some (.lst xs)) ∧ ∀ xs, B q ≠ some (.tup xs)) : ∀ {vs : List V} {xs : List PyData}, Dts B vs xs → Dts (G.hid Z B) vs xs
  | _, _, .nil => .nil
  | _, _, .cons h t => .cons (h.hid hV) (t.hid hV)
end
theorem IsT.forget {W : List Addr} (hV : ∀ q ∈ W, (∀ xs, B q ≠ some (.lst xs)) ∧ ∀ xs, B q ≠ some (.tup xs)) (sub : Same B H) : ∀ {v T V}, IsT CM B B v T V → IsT CM (hid W B) H v T V
  | _, _, _, .lf n => .lf n
  | _, _, _, .nd h1 h2 h3 h4 h5 t0 t1 h6 => .nd (sub _ _ h1) (by rw [hid_out fun z => (hV _ z).2 _ h2]; exact h2) (by rw [hid_out fun z => (hV _ z).1 _ h3]; exact h3) (by rw [hid_out fun z => (hV _ z).1 _ h4]; exact h4)
    (by rw [hid_out fun z => (hV _ z).1 _ h5]; exact h5) (t0.forget hV sub) (t1.forget hV sub) (h6.hid hV)
theorem Pu.hide {B0 H0 : Hp} {W : List Addr} (S : Pu B0 H0 B H) (hW : ∀ q ∈ W, H0 q = none ∧ B0 q = none) : Pu B0 H0 (hid W B) H :=
  ⟨fun q o e => by
      rw [hid_out fun z => by rw [(hW q z).2] at e; cases e]
      exact S.kn q o e, (hid_same W).trans S.sub, S.old, fun q hq => by
      rw [hid_out fun z => hq (hW q z).1]; exact S.fr q hq⟩
end
/-! a promise that changes some objects -/
structure OldV (Z : List Addr) (B H B' H' : Hp) : Prop where
  st : ∀ q o, q ∉ Z → H q = some o → H' q = some o
  fr : ∀ q, q ∉ Z → H q ≠ none → B' q = B q
def spMt {T : Type} (pre : Hp → Hp → List Addr → List V → T → Prop) (post : Hp → Hp → List Addr → T → V → Prop) : Sp := fun vs H Q _ => ∃ (B : Hp) (Z : List Addr) (x : T), Same B H ∧ (∀ q ∈ Z, B q = none) ∧ pre B H Z vs x ∧
  ∀ v B' H' V', Pu B (hid Z H) B' H' → (∀ q ∈ V', B' q = none ∧ (q ∈ Z ∨ H q = none)) → post B' H' V' x v → Q v H'
section
variable {T : Type} {B0 H0 B H : Hp} {pre : Hp → Hp → List Addr → List V → T → Prop} {post : Hp → Hp → List Addr → T → V → Prop} {vs : List V} {Q : VK} {E : XK} {Z : List Addr}
theorem OldV.of {B' H' : Hp} (S' : Pu B (hid Z H) B' H') : OldV Z B H B' H' := ⟨fun q o hq e => S'.old q o (by rw [hid_out hq]; exact e), fun q hq e => S'.fr q (by rw [hid_out hq]; exact e)⟩
theorem Pu.mtw {B' H' : Hp} (S : Pu B0 H0 B H) (hV : ∀ q ∈ Z, B q = none ∧ H0 q = none) (S' : Pu B (hid Z H) B' H') : Pu B0 H0 B' H' :=
  ⟨S.kn.trans S'.kn, S'.sub, fun q o e => S'.old q o (by
      rw [hid_out fun z => by rw [(hV q z).2] at e; cases e]
      exact S.old q o e), fun q hq => by
      have h1 : q ∉ Z := fun z => hq (hV q z).2
      rw [S'.fr q (by
        rw [hid_out h1]
        cases e : H0 q with
        | none => exact absurd e hq
        | some o => rw [S.old q o e]; exact fun z => nomatch z), S.fr q hq]⟩
theorem Pu.mt (S : Pu B0 H0 B H) (x : T) (Z : List Addr) (hV : ∀ q ∈ Z, B q = none ∧ H0 q = none) (hp : pre B H Z vs x)
    (q : ∀ v B' H' V', Pu B0 H0 B' H' → OldV Z B H B' H' → Same B B' → (∀ q ∈ V', B' q = none ∧ H0 q = none ∧ (q ∈ Z ∨ H q = none)) → post B' H' V' x v → Q v H') : spMt pre post vs H Q E :=
  ⟨B, Z, x, S.sub, fun q hq => (hV q hq).1, hp, fun v B' H' V' S' hV' r => q v B' H' V' (S.mtw hV S') (.of S') S'.kn (fun q hq => ⟨(hV' q hq).1, (hV' q hq).2.elim (fun z => (hV q z).2) (fun z => S.old.free z), (hV' q hq).2⟩) r⟩
theorem St.mtw {a : Addr} {n : Nat} {B' H' : Hp} (S : St a B0 H0 n B H) (hV : ∀ q ∈ Z, B q = none ∧ H0 q = none ∧ q ≠ a) (S' : Pu B (hid Z H) B' H') : St a B0 H0 n B' H' := by
  have hnV : ∀ q, H0 q ≠ none → q ∉ Z := fun q hq z => hq (hV q z).2.1
  have haV : a ∉ Z := fun z => (hV a z).2.2 rfl
  refine ⟨S.kn.trans S'.kn, S'.sub, ?_, ?_, fun q o hqa e => S'.old q o (by rw [hid_out (hnV q (by rw [e]; exact fun z => nomatch z))]; exact S.oth q o hqa e), fun q hq => ?_⟩
  · rw [S'.fr a (by rw [hid_out haV]; exact S.has)]; exact S.na
  · obtain ⟨u, e, l⟩ := S.left
    exact ⟨u, S'.old _ _ (by rw [hid_out haV]; exact e), l⟩
  · rw [S'.fr q (by
      rw [hid_out (hnV q hq)]
      by_cases e : q = a
      · rw [e]; exact S.has
      · cases z : H0 q with
        | none => exact absurd z hq
        | some o => rw [S.oth q o e z]; exact fun z => nomatch z), S.fr q hq]
theorem St.mt {a : Addr} {n : Nat} (S : St a B0 H0 n B H) (x : T) (Z : List Addr) (hV : ∀ q ∈ Z, B q = none ∧ H0 q = none ∧ q ≠ a) (hp : pre B H Z vs x)
    (q : ∀ v B' H' V', St a B0 H0 n B' H' → OldV Z B H B' H' → Same B B' → (∀ q ∈ V', B' q = none ∧ H0 q = none ∧ q ≠ a) → post B' H' V' x v → Q v H') : spMt pre post vs H Q E :=
  ⟨B, Z, x, S.sub, fun q hq => (hV q hq).1, hp, fun v B' H' V' S' hV' r => q v B' H' V' (S.mtw hV S') (.of S') S'.kn (fun q hq => ⟨(hV' q hq).1, (hV' q hq).2.elim (fun z => (hV q z).2.1) (fun z => by
      cases e : H0 q with
      | none => rfl
      | some o =>
        by_cases c : q = a
        · rw [c] at z; exact absurd z S.has
        · rw [S.oth q o c e] at z; cases z), (hV' q hq).2.elim (fun z => (hV q z).2.2) (fun z c => by rw [c] at z; exact absurd z S.has)⟩) r⟩
end
/-! a merge without its tree -/
structure Core where
  rw : List RowE
  num : Nat
  top : V
  win : V
  lik : Nat
  look : Nat
structure IsC (CG : Addr) (B H : Hp) (m : Addr) (M : Core) (Z : List Addr) : Prop where
  ex : ∃ dx pr pg pa, ∃ P A : Int → Addr, Z = [m, pr, pg, pa] ∧ H m = some (.ins CG dx (mgF pr pg pa M.num M.top M.win M.lik M.look)) ∧ H pr = some (.dK (dI V.ref (M.rw.map fun e => (e.1, P e.1)))) ∧
    H pg = some (.dK (dI V.int (M.rw.map fun e => (e.1, (e.2.2 : Int))))) ∧ H pa = some (.dK (dI V.ref (M.rw.map fun e => (e.1, A e.1)))) ∧
    ∀ e ∈ M.rw, B (P e.1) = some (.lst (e.2.1.map V.str)) ∧ B (A e.1) = some (.lst ((alk e.2.1).map V.int))
  nd : Z.Nodup
theorem IsC.mono {CG : Addr} {B H B' H' : Hp} {m : Addr} {M : Core} {Z : List Addr} (I : IsC CG B H m M Z) (k : Same B B') (hv : ∀ q ∈ Z, ∀ o, H q = some o → H' q = some o) : IsC CG B' H' m M Z := by
  obtain ⟨⟨dx, pr, pg, pa, P, A, rfl, h1, h2, h3, h4, h5⟩, nd⟩ := I
  exact ⟨⟨dx, pr, pg, pa, P, A, rfl, hv _ (by simp) _ h1, hv _ (by simp) _ h2, hv _ (by simp) _ h3, hv _ (by simp) _ h4, fun e he => ⟨k _ _ (h5 e he).1, k _ _ (h5 e he).2⟩⟩, nd⟩
end G

namespace G
open PySem PySem.Spec PyProof.Rows L2 TL RZ

/-! ### the fields -/
section
variable {pb ps pr pg pa : Addr} {vs top win y : V} {far num lik look : Int}
theorem mt_both : (mtF pb ps vs far).lookup ("own_both" : Str) = some (V.ref pb) := by rfl
theorem mt_sides : (mtF pb ps vs far).lookup ("own_sides" : Str) = some (V.ref ps) := by rfl
theorem mt_stays : (mtF pb ps vs far).lookup ("own_stays" : Str) = some vs := by rfl
theorem mt_far : (mtF pb ps vs far).lookup ("own_far" : Str) = some (V.int far) := by rfl
theorem mtp_stays : putF "own_stays" y (mtF pb ps vs far) = mtF pb ps y far := by rfl
theorem mtp_far {f : Int} : putF "own_far" (.int f) (mtF pb ps vs far) = mtF pb ps vs f := by rfl
theorem mg_rows : (mgF pr pg pa num top win lik look).lookup ("own_rows" : Str) = some (V.ref pr) := by rfl
theorem mg_gone : (mgF pr pg pa num top win lik look).lookup ("own_gone" : Str) = some (V.ref pg) := by rfl
theorem mg_alikes : (mgF pr pg pa num top win lik look).lookup ("own_alikes" : Str) = some (V.ref pa) := by rfl
theorem mg_number : (mgF pr pg pa num top win lik look).lookup ("own_number" : Str) = some (V.int num) := by rfl
theorem mg_top : (mgF pr pg pa num top win lik look).lookup ("own_top" : Str) = some top := by rfl
theorem mg_winner : (mgF pr pg pa num top win lik look).lookup ("own_winner" : Str) = some win := by rfl
theorem mg_lik : (mgF pr pg pa num top win lik look).lookup ("own_likenings" : Str) = some (V.int lik) := by rfl
theorem mg_look : (mgF pr pg pa num top win lik look).lookup ("own_looks" : Str) = some (V.int look) := by rfl
theorem mgp_number {k : Int} : putF "own_number" (.int k) (mgF pr pg pa num top win lik look) = mgF pr pg pa k top win lik look := by rfl
theorem mgp_top : putF "own_top" y (mgF pr pg pa num top win lik look) = mgF pr pg pa num y win lik look := by rfl
theorem mgp_winner : putF "own_winner" y (mgF pr pg pa num top win lik look) = mgF pr pg pa num top y lik look := by rfl
theorem mgp_lik {k : Int} : putF "own_likenings" (.int k) (mgF pr pg pa num top win lik look) = mgF pr pg pa num top win k look := by rfl
theorem mgp_look {k : Int} : putF "own_looks" (.int k) (mgF pr pg pa num top win lik look) = mgF pr pg pa num top win lik k := by rfl
theorem mt_len : (mtF pb ps vs far).length < 1000 := by show 4 < 1000; decide
theorem mg_len : (mgF pr pg pa num top win lik look).length < 1000 := by show 8 < 1000; decide
theorem mt_no {m : Str} (h : ("own_both" == m) = false ∧ ("own_sides" == m) = false ∧ ("own_stays" == m) = false ∧ ("own_far" == m) = false) : True := trivial
end
section
variable {K : PySem.W.Frag} {C a dx : Addr} {f : Str} {v y : V} {fs fs' : List (Str × V)} {H : Hp} {Q : VK} {σ : L2.St} {ta tv td ty : TE} {D : Ends} {i j : Int} {rd : V → V → Hp → VK → Prop}
def FAugI (C a : Addr) (f : Str) (D : Ends) (σ : L2.St) (i : Int) (y : V) (H2 : Hp) : Prop := ∃ (j : Int) (dx : Addr) (fs : List (Str × V)), y = .int j ∧ H2 a = some (.ins C dx fs) ∧ fs.length < 1000 ∧ D.nx σ (upd H2 a (.ins C dx (putF f (.int (i + j)) fs)))
theorem faug_at (h : H a = some (.ins C dx fs)) (c : Cls K C) (n : NoAttr K C f) (l : List.lookup f fs = some (V.int i)) (q : tv σ H (FAugI C a f D σ i)) : FAug K tv rAdd f D σ (.ref a) H :=
  ⟨a, C, dx, fs, _, rfl, h, c, n, l, by
    have e : (fun y H2 => rAdd (.int i) y H2 fun z H3 => ∃ dx' fs', H3 a = some (.ins C dx' fs') ∧ fs'.length < 1000 ∧ D.nx σ (upd H3 a (.ins C dx' (putF f z fs')))) = FAugI C a f D σ i := by
      funext y H2
      refine propext ⟨?_, ?_⟩
      · rintro ⟨i', j, e1, e2, dx', fs', h1, h2, h3⟩
        cases e1
        exact ⟨j, dx', fs', e2, h1, h2, h3⟩
      · rintro ⟨j, dx', fs', e2, h1, h2, h3⟩
        exact ⟨i, j, rfl, e2, dx', fs', h1, h2, h3⟩
    rw [e]; exact q⟩
theorem faugI (h : H a = some (.ins C dx fs)) (l : fs.length < 1000) (e : putF f (.int (i + j)) fs = fs') (q : D.nx σ (upd H a (.ins C dx fs'))) : FAugI C a f D σ i (.int j) H := ⟨j, dx, fs, rfl, h, l, by rw [e]; exact q⟩
def DAug1 (ty tv : TE) (rd : V → V → Hp → VK → Prop) (D : Ends) (σ : L2.St) (x : V) (H1 : Hp) : Prop := ty σ H1 fun y H2 => ∃ a v, x = .ref a ∧ DGet H2 a y (some v) ∧ tv σ H2 fun y2 H3 => rd v y2 H3 fun z H4 => ∃ H5, DPut H4 a y z H5 ∧ D.nx σ H5
theorem g_daug (h : td σ H (DAug1 ty tv rd D σ)) : sDAug td ty tv rd D σ H := h
end
theorem upd_twice {H : Hp} {a : Addr} {o o' : HO} : upd (upd H a o) a o' = upd H a o' := by
  funext q
  by_cases h : q = a
  · rw [h, upd_same, upd_same]
  · rw [upd_ne h, upd_ne h, upd_ne h]
theorem upd_eq {H : Hp} {a : Addr} {o : HO} (h : H a = some o) : upd H a o = H := by
  funext q
  by_cases e : q = a
  · rw [e, upd_same, h]
  · rw [upd_ne e]
/-! ### a tree without anything played -/
def buildF : Nat → List Int → Tr
  | 0, ns => .lf (ns.headD 0)
  | d + 1, ns => if ns.length ≤ 1 then .lf (ns.headD 0) else .nd (buildF d (ns.take ((ns.length + 1) / 2))) (buildF d (ns.drop ((ns.length + 1) / 2))) none 0
theorem buildF_one (d : Nat) {ns : List Int} (h : ns.length ≤ 1) : buildF d ns = .lf (ns.headD 0) := by
  cases d with
  | zero => rfl
  | succ d => show (if _ then _ else _) = _; rw [if_pos h]
theorem buildF_two (d : Nat) {ns : List Int} (h : 2 ≤ ns.length) : buildF (d + 1) ns = .nd (buildF d (ns.take ((ns.length + 1) / 2))) (buildF d (ns.drop ((ns.length + 1) / 2))) none 0 := by
  show (if _ then _ else _) = _; rw [if_neg (by omega)]
theorem buildF_lv : ∀ (d : Nat) {ns : List Int}, 1 ≤ ns.length → ns.length ≤ 2 ^ d → (buildF d ns).lv = ns
  | d, ns, h1, h2 => by
    by_cases h : ns.length ≤ 1
    · rw [buildF_one d h]
      cases ns with
      | nil => exact absurd h1 (by simp)
      | cons x r =>
        cases r with
        | nil => rfl
        | cons y r => simp at h
    · cases d with
      | zero => exact absurd h2 (by omega)
      | succ d =>
        have e2 : 2 ^ (d + 1) = 2 * 2 ^ d := by rw [Nat.pow_succ]; omega
        rw [buildF_two d (by omega)]
        show (buildF d _).lv ++ (buildF d _).lv = _
        rw [buildF_lv d (by rw [List.length_take]; omega) (by rw [List.length_take]; omega), buildF_lv d (by rw [List.length_drop]; omega) (by rw [List.length_drop]; omega), List.take_append_drop]
theorem buildF_ht : ∀ (d : Nat) (ns : List Int), (buildF d ns).ht ≤ d
  | 0, _ => Nat.le_refl _
  | d + 1, ns => by
    by_cases h : ns.length ≤ 1
    · rw [buildF_one _ h]; exact Nat.zero_le _
    · rw [buildF_two d (by omega)]
      show max _ _ + 1 ≤ _
      have h1 := buildF_ht d (ns.take ((ns.length + 1) / 2))
      have h2 := buildF_ht d (ns.drop ((ns.length + 1) / 2))
      omega
/-! ### what is known of a merge's rows -/
structure WfM (M : Core) : Prop where
  up : (keysR M.rw).Pairwise (· < ·)
  len : ∀ e ∈ M.rw, e.2.1.length ≤ 1000 ∧ e.2.2 ≤ e.2.1.length
  key : ∀ e ∈ M.rw, ∀ z ∈ e.2.1, z.length ≤ 100000
  num : M.num ≤ 1000
  few : M.rw.length ≤ 16
theorem IsC.pure {CG : Addr} {B H B' H' : Hp} {m : Addr} {M : Core} {Z : List Addr} (I : IsC CG B H m M Z) (S : Pu B H B' H') : IsC CG B' H' m M Z := I.mono S.kn fun _ _ _ e => S.old _ _ e
theorem IsC.some_ {CG : Addr} {B H : Hp} {m : Addr} {M : Core} {Z : List Addr} (I : IsC CG B H m M Z) : ∀ q ∈ Z, H q ≠ none := by
  obtain ⟨⟨dx, pr, pg, pa, P, A, rfl, h1, h2, h3, h4, h5⟩, nd⟩ := I
  intro q hq
  simp only [List.mem_cons, List.not_mem_nil, or_false] at hq
  rcases hq with rfl | rfl | rfl | rfl
  · rw [h1]; exact fun z => nomatch z
  · rw [h2]; exact fun z => nomatch z
  · rw [h3]; exact fun z => nomatch z
  · rw [h4]; exact fun z => nomatch z
theorem IsT.some_ {CM : Addr} {B H : Hp} {v : V} {T : Tr} {W : List Addr} (I : IsT CM B H v T W) : ∀ q ∈ W, H q ≠ none := fun q hq => by
  obtain ⟨dx, fs, e⟩ := I.ins q hq
  rw [e]; exact fun z => nomatch z
theorem Pu.stay {B H B' H' : Hp} (S : Pu B H B' H') {Z : List Addr} (h : ∀ q ∈ Z, H q ≠ none) (hb : ∀ q ∈ Z, B q = none) : ∀ q ∈ Z, B' q = none := fun q hq => by rw [S.fr q (h q hq)]; exact hb q hq
/-- a new object that its own def makes: known from then on -/
theorem Pu.made {B H B' H' : Hp} {y dy : Addr} {o o' : HO} (hs : Same B H) (hy : H y = none) (hd : H dy = none) (S' : Pu B (hid [y] (upd (upd H dy o) y o')) B' H') : Pu B H B' H' := by
  have ne : ∀ q, H q ≠ none → q ≠ y ∧ q ≠ dy := fun q hq => ⟨fun z => hq (z ▸ hy), fun z => hq (z ▸ hd)⟩
  have e : ∀ q, H q ≠ none → hid [y] (upd (upd H dy o) y o') q = H q := fun q hq => by
    rw [hid_out (by simpa using (ne q hq).1), upd_ne (ne q hq).1, upd_ne (ne q hq).2]
  refine ⟨S'.kn, S'.sub, fun q u eq => S'.old q u ?_, fun q hq => S'.fr q ?_⟩
  · rw [e q (by rw [eq]; exact fun z => nomatch z)]; exact eq
  · rw [e q hq]; exact hq
theorem Old.keepB {B H B' H' : Hp} (O : Old B H B' H') {q : Addr} {o : HO} (h : H q = some o) (hb : B q = none) : B' q = none := by rw [O.fr q (by rw [h]; exact fun z => nomatch z)]; exact hb
theorem hdR_key {M : Core} (hW : WfM M) {n : Int} {t : Thg} (h : hdR M.rw n = some t) : t.2.2.length ≤ 100000 := by
  obtain ⟨e, he, _, e2⟩ := hdR_mem h
  exact hW.key e he _ (List.mem_of_getElem? (hdE_fst e2).2.2)
theorem wins_key {M : Core} (hW : WfM M) {T : Tr} {t : Thg} (h : wins (hdR M.rw) T = some t) : t.2.2.length ≤ 100000 := by
  rw [wins_lstH] at h
  obtain ⟨n, _, e⟩ := (lstH_some h).1
  exact hdR_key hW e
/-! a row by its number in the dicts -/
theorem val_row {α : Type} {g : α → V} {rw : List RowE} (F : RowE → α) (up : (keysR rw).Pairwise (· < ·)) {e : RowE} (he : e ∈ rw) : valV (dI g (rw.map fun e => (e.1, F e))) (Sum.inl e.1) = some (g (F e)) := by
  rw [valV_dI, kget_of (x := F e)]
  · rfl
  · rw [List.map_map]
    exact (List.Pairwise.imp (fun h => Int.ne_of_lt h) up : (keysR rw).Nodup)
  · exact List.mem_map.mpr ⟨e, he, rfl⟩
theorem IsC.fields {CG : Addr} {B H : Hp} {m : Addr} {M : Core} {Z : List Addr} (I : IsC CG B H m M Z) : ∃ dx pr pg pa, ∃ P A : Int → Addr, H m = some (.ins CG dx (mgF pr pg pa M.num M.top M.win M.lik M.look)) ∧ H pr = some (.dK (dI V.ref (M.rw.map fun e => (e.1, P e.1)))) ∧
    H pg = some (.dK (dI V.int (M.rw.map fun e => (e.1, (e.2.2 : Int))))) ∧ H pa = some (.dK (dI V.ref (M.rw.map fun e => (e.1, A e.1)))) ∧ (∀ e ∈ M.rw, B (P e.1) = some (.lst (e.2.1.map V.str)) ∧ B (A e.1) = some (.lst ((alk e.2.1).map V.int))) ∧
    (m ∈ Z ∧ pr ∈ Z ∧ pg ∈ Z ∧ pa ∈ Z ∧ m ≠ pr ∧ m ≠ pg ∧ m ≠ pa ∧ pr ≠ pg ∧ pr ≠ pa ∧ pg ≠ pa) ∧
    ∀ (B' H' : Hp) (top win : V) (lik look : Nat), Same B B' → (∀ q ∈ Z, q ≠ m → ∀ o, H q = some o → H' q = some o) → H' m = some (.ins CG dx (mgF pr pg pa M.num top win lik look)) → IsC CG B' H' m ⟨M.rw, M.num, top, win, lik, look⟩ Z := by
  obtain ⟨⟨dx, pr, pg, pa, P, A, rfl, h1, h2, h3, h4, h5⟩, nd⟩ := I
  have nd' := nd
  simp only [List.nodup_cons, List.mem_cons, List.not_mem_nil, or_false, not_or, not_false_eq_true, List.nodup_nil, and_true] at nd'
  obtain ⟨⟨n1, n2, n3⟩, ⟨n4, n5⟩, n6⟩ := nd'
  refine ⟨dx, pr, pg, pa, P, A, h1, h2, h3, h4, h5, ⟨by simp, by simp, by simp, by simp, n1, n2, n3, n4, n5, n6⟩, fun B' H' top win lik look k hv hm => ?_⟩
  exact ⟨⟨dx, pr, pg, pa, P, A, rfl, hm, hv pr (by simp) (Ne.symm n1) _ h2, hv pg (by simp) (Ne.symm n2) _ h3, hv pa (by simp) (Ne.symm n3) _ h4, fun e he => ⟨k _ _ (h5 e he).1, k _ _ (h5 e he).2⟩⟩, nd⟩
theorem sort_eq : ∀ {xs ys : List Int}, xs.Perm ys → xs.Pairwise (· ≤ ·) → ys.Pairwise (· < ·) → xs = ys
  | [], ys, hp, _, _ => (List.nil_perm.mp hp).symm
  | x :: xs, [], hp, _, _ => absurd hp.length_eq (by simp)
  | x :: xs, y :: ys, hp, hx, hy => by
    rw [List.pairwise_cons] at hx hy
    have e : x = y := by
      have h1 : x ∈ y :: ys := hp.subset List.mem_cons_self
      have h2 : y ∈ x :: xs := hp.symm.subset List.mem_cons_self
      rcases List.mem_cons.mp h1 with h | h
      · exact h
      · rcases List.mem_cons.mp h2 with h' | h'
        · exact h'.symm
        · have := hx.1 y h'
          have := hy.1 x h
          omega
    subst e
    rw [sort_eq (List.Perm.cons_inv hp) hx.2 hy.2]
theorem playT_twice {hd hd' : Int → Option Thg} : ∀ T : Tr, playT hd' (playT hd T) = playT hd' T
  | .lf _ => rfl
  | .nd l r s f => by
    show Tr.nd (playT hd' (playT hd l)) (playT hd' (playT hd r)) (snd2 (wins hd' (playT hd l)) (wins hd' (playT hd r))) (far2 (wins hd' (playT hd l)) (wins hd' (playT hd r))) = Tr.nd _ _ _ _
    rw [playT_twice l, playT_twice r, playT_wins, playT_wins]
/-- a merge's tree -/
def forkT (M : Core) : Tr := buildF 4 (keysR M.rw)
/-- a merge whole -/
structure IsM (CM CG : Addr) (B H : Hp) (m : Addr) (M : Core) (Z W : List Addr) : Prop where
  c : IsC CG B H m M Z
  wf : WfM M
  nd : (Z ++ W).Nodup
  win : Dt B M.win (encO (lstH (hdR M.rw) (keysR M.rw)))
  tr : (M.rw.length ≤ 1 ∧ M.top = .non ∧ W = []) ∨ (2 ≤ M.rw.length ∧ IsT CM B H M.top (playT (hdR M.rw) (forkT M)) W)
/-- what the first play takes -/
def paM (M : Core) (top win : V) : Core := ⟨M.rw, M.num, top, win, M.lik + likT (hdR M.rw) (forkT M), M.look + lookT (hdR M.rw) (forkT M)⟩
theorem IsM.mono {CM CG : Addr} {B H B' H' : Hp} {m : Addr} {M : Core} {Z W : List Addr} (I : IsM CM CG B H m M Z W) (k : Same B B') (hv : ∀ q ∈ Z ++ W, ∀ o, H q = some o → H' q = some o) : IsM CM CG B' H' m M Z W :=
  ⟨I.c.mono k fun q hq => hv q (List.mem_append_left _ hq), I.wf, I.nd, I.win.mono k, I.tr.imp id fun h => ⟨h.1, h.2.mono k fun q hq => hv q (List.mem_append_right _ hq)⟩⟩
theorem IsM.some_ {CM CG : Addr} {B H : Hp} {m : Addr} {M : Core} {Z W : List Addr} (I : IsM CM CG B H m M Z W) : ∀ q ∈ Z ++ W, H q ≠ none := fun q hq => by
  rcases List.mem_append.mp hq with h | h
  · exact I.c.some_ q h
  · rcases I.tr with ⟨_, _, e⟩ | ⟨_, t⟩
    · rw [e] at h; cases h
    · exact t.some_ q h
/-- rows that are handed in -/
def rowD (ys : List Str) : PyData := .list (ys.map PyData.str)
def rowsD (yss : List (List Str)) : PyData := .list (yss.map rowD)
theorem Dts.str1 {B : Hp} : ∀ {vs : List V} {ys : List Str}, Dts B vs (ys.map PyData.str) → vs = ys.map V.str
  | [], [], _ => rfl
  | _, y :: ys, .cons h t => by
    cases h
    rw [Dts.str1 t]; rfl
theorem Dt.row {B : Hp} {v : V} {ys : List Str} (h : Dt B v (rowD ys)) : ∃ p, v = .ref p ∧ B p = some (.lst (ys.map V.str)) := by
  obtain ⟨p, xs, rfl, hp, hs⟩ := h.list
  rw [hs.str1] at hp
  exact ⟨p, rfl, hp⟩
theorem Dts.rowAt {B : Hp} {vs : List V} {yss : List (List Str)} (h : Dts B vs (yss.map rowD)) {i : Nat} {v : V} (e : vs[i]? = some v) : ∃ ys p, yss[i]? = some ys ∧ v = .ref p ∧ B p = some (.lst (ys.map V.str)) := by
  obtain ⟨d, h1, h2⟩ := h.at e
  rw [List.getElem?_map] at h1
  cases e1 : yss[i]? with
  | none => rw [e1] at h1; cases h1
  | some ys =>
    rw [e1] at h1
    have h1 := Option.some.inj h1
    rw [← h1] at h2
    obtain ⟨p, e2, hp⟩ := h2.row
    exact ⟨ys, p, rfl, e2, hp⟩
/-- the rows of a merge that is made -/
def rwF (yss : List (List Str)) : List RowE := yss.zipIdx.map fun e => ((e.2 : Int), e.1, 0)
def initM (yss : List (List Str)) : Core := ⟨rwF yss, yss.length, .non, .non, 0, 0⟩
theorem rwF_snoc (yss : List (List Str)) (ys : List Str) : rwF (yss ++ [ys]) = rwF yss ++ [((yss.length : Int), ys, 0)] := by
  unfold rwF
  rw [List.zipIdx_append, List.map_append]
  simp
theorem rwF_len (yss : List (List Str)) : (rwF yss).length = yss.length := by unfold rwF; simp
theorem rwF_keys (yss : List (List Str)) : keysR (rwF yss) = (List.range yss.length).map fun (i : Nat) => (i : Int) := by
  unfold keysR rwF
  rw [List.map_map]
  have : (List.range yss.length).map (fun (i : Nat) => (i : Int)) = (yss.zipIdx.map Prod.snd).map fun (i : Nat) => (i : Int) := by rw [List.zipIdx_map_snd, List.range_eq_range']
  rw [this, List.map_map]
  rfl
theorem rwF_mem {yss : List (List Str)} {e : RowE} (h : e ∈ rwF yss) : ∃ i : Nat, i < yss.length ∧ e.1 = (i : Int) ∧ yss[i]? = some e.2.1 ∧ e.2.2 = 0 := by
  obtain ⟨⟨ys, i⟩, h1, rfl⟩ := List.mem_map.mp h
  have := List.mem_zipIdx_iff_getElem?.mp h1
  exact ⟨i, (List.getElem?_eq_some_iff.mp this).1, rfl, this, rfl⟩
theorem initM_wf {yss : List (List Str)} (hl : yss.length ≤ 16) (hy : ∀ ys ∈ yss, ys.length ≤ 1000 ∧ ∀ z ∈ ys, z.length ≤ 100000) : WfM (initM yss) := by
  refine ⟨?_, fun e he => ?_, fun e he z hz => ?_, ?_, ?_⟩
  · show (keysR (rwF yss)).Pairwise (· < ·)
    rw [rwF_keys]
    exact List.pairwise_map.mpr (List.pairwise_lt_range.imp fun h => by omega)
  · obtain ⟨i, _, _, h, h0⟩ := rwF_mem he
    rw [h0]
    exact ⟨(hy _ (List.mem_of_getElem? h)).1, Nat.zero_le _⟩
  · obtain ⟨i, _, _, h, _⟩ := rwF_mem he
    exact (hy _ (List.mem_of_getElem? h)).2 z hz
  · show yss.length ≤ 1000; omega
  · show (rwF yss).length ≤ 16
    unfold rwF; simp; omega
section
variable {hd : Int → Option Thg} {l r : Tr} {n : Int} {pl f : Nat} {ko : Str} {s : Option Thg}
theorem wins_from {T : Tr} {t : Thg} (h : wins hd T = some t) : ∃ m, hd m = some t := by
  rw [wins_lstH] at h
  obtain ⟨m, _, e⟩ := (lstH_some h).1
  exact ⟨m, e⟩
theorem win_left (hn : ∀ m t, hd m = some t → t.1 = m) (hr : n ∉ r.lv) (hw : fst2 (wins hd l) (wins hd r) = some (n, pl, ko)) : wins hd l = some (n, pl, ko) := by
  cases e1 : wins hd l with
  | none =>
    rw [e1] at hw
    exact absurd (wins_mem hn (show wins hd r = _ from hw)) hr
  | some a =>
    cases e2 : wins hd r with
    | none => rw [e1, e2] at hw; exact hw
    | some b =>
      rw [e1, e2] at hw
      have hw : (if lk a.2.2 b.2.2 > 0 then some b else some a) = some (n, pl, ko) := hw
      split at hw
      · rw [Option.some.inj hw] at e2
        exact absurd (wins_mem hn e2) hr
      · exact hw
theorem win_right (hn : ∀ m t, hd m = some t → t.1 = m) (hl : n ∉ l.lv) (hw : fst2 (wins hd l) (wins hd r) = some (n, pl, ko)) : wins hd r = some (n, pl, ko) := by
  cases e1 : wins hd l with
  | none => rw [e1] at hw; exact hw
  | some a =>
    cases e2 : wins hd r with
    | none =>
      rw [e1, e2] at hw
      have hw : some a = some (n, pl, ko) := hw
      rw [Option.some.inj hw] at e1
      exact absurd (wins_mem hn e1) hl
    | some b =>
      rw [e1, e2] at hw
      have hw : (if lk a.2.2 b.2.2 > 0 then some b else some a) = some (n, pl, ko) := hw
      split at hw
      · exact hw
      · rw [Option.some.inj hw] at e1
        exact absurd (wins_mem hn e1) hl
theorem stay_left (hn : ∀ m t, hd m = some t → t.1 = m) (hr : n ∉ r.lv) (hw : fst2 (wins hd l) (wins hd r) = some (n, pl, ko)) (hs : s = snd2 (wins hd l) (wins hd r)) (hf : f = far2 (wins hd l) (wins hd r)) : ∀ t, s = some t → f = lc t.2.2 ko ∧ lk ko t.2.2 ≤ 0 ∧ ∃ m, hd m = some t := by
  intro t ht
  have e1 := win_left hn hr hw
  cases e2 : wins hd r with
  | none => rw [e1, e2] at hs; rw [hs] at ht; cases ht
  | some b =>
    rw [e1, e2] at hs hf hw
    have hw : (if lk ko b.2.2 > 0 then some b else some (n, pl, ko)) = some (n, pl, ko) := hw
    have hs : s = if lk ko b.2.2 > 0 then some (n, pl, ko) else some b := hs
    have hf : f = lc ko b.2.2 := hf
    by_cases c : lk ko b.2.2 > 0
    · rw [if_pos c] at hw
      rw [Option.some.inj hw] at e2
      exact absurd (wins_mem hn e2) hr
    · rw [if_neg c, ht] at hs
      obtain rfl := Option.some.inj hs
      exact ⟨by rw [hf, lc_comm], by omega, wins_from e2⟩
theorem stay_right (hn : ∀ m t, hd m = some t → t.1 = m) (hl : n ∉ l.lv) (hw : fst2 (wins hd l) (wins hd r) = some (n, pl, ko)) (hs : s = snd2 (wins hd l) (wins hd r)) (hf : f = far2 (wins hd l) (wins hd r)) : ∀ t, s = some t → f = lc t.2.2 ko ∧ lk ko t.2.2 ≤ 0 ∧ ∃ m, hd m = some t := by
  intro t ht
  have e1 := win_right hn hl hw
  cases e2 : wins hd l with
  | none => rw [e1, e2] at hs; rw [hs] at ht; cases ht
  | some b =>
    rw [e1, e2] at hs hf hw
    have hw : (if lk b.2.2 ko > 0 then some (n, pl, ko) else some b) = some (n, pl, ko) := hw
    have hs : s = if lk b.2.2 ko > 0 then some b else some (n, pl, ko) := hs
    have hf : f = lc b.2.2 ko := hf
    by_cases c : lk b.2.2 ko > 0
    · rw [if_pos c, ht] at hs
      obtain rfl := Option.some.inj hs
      exact ⟨hf, by have := lk_anti t.2.2 ko; omega, wins_from e2⟩
    · rw [if_neg c] at hw
      rw [Option.some.inj hw] at e2
      exact absurd (wins_mem hn e2) hl
end
theorem map_lay {rw : List RowE} {num : Nat} {ys : List Str} (P : Int → Addr) (p : Addr) (hk : ∀ e ∈ rw, e.1 < (num : Int)) :
    (rw ++ [((num : Int), ys, 0)]).map (fun e : RowE => (e.1, (fun k : Int => if k = (num : Int) then p else P k) e.1)) = rw.map (fun e => (e.1, P e.1)) ++ [((num : Int), p)] := by
  rw [List.map_append]
  refine congr (congrArg _ (List.map_congr_left fun e he => ?_)) ?_
  · show (e.1, if e.1 = (num : Int) then p else P e.1) = _
    rw [if_neg (by have := hk e he; omega)]
  · show [((num : Int), if (num : Int) = (num : Int) then p else P num)] = _
    rw [if_pos rfl]
theorem map_gone {rw : List RowE} {num : Nat} {ys : List Str} : (rw ++ [((num : Int), ys, 0)]).map (fun e : RowE => (e.1, (e.2.2 : Int))) = rw.map (fun e => (e.1, (e.2.2 : Int))) ++ [((num : Int), 0)] := by
  rw [List.map_append]; rfl
end G

namespace G
open PySem PySem.Spec PyProof.Rows L2 TL RZ

/-! ### a thing goes out -/
theorem hdR_step_ne {n k : Int} (h : k ≠ n) : ∀ rw : List RowE, hdR (stepR rw n) k = hdR rw k
  | [] => rfl
  | e :: rw => by
    show hdR ((if e.1 = n then (e.1, e.2.1, e.2.2 + 1) else e) :: stepR rw n) k = _
    rw [hdR_cons, hdR_cons, hdR_step_ne h rw]
    by_cases c : e.1 = n
    · rw [if_pos c, if_neg (by intro z; exact h (by rw [← z]; exact c)), if_neg (by intro z; exact h (by rw [← z]; exact c))]
    · rw [if_neg c]
theorem key_inj {rw : List RowE} (up : (keysR rw).Pairwise (· < ·)) {e e' : RowE} (he : e ∈ rw) (he' : e' ∈ rw) (h : e'.1 = e.1) : e' = e := by
  induction rw with
  | nil => cases he
  | cons x rw ih =>
    have up' : (keysR rw).Pairwise (· < ·) ∧ ∀ y ∈ rw, x.1 < y.1 := by
      have := List.pairwise_cons.mp (show (x.1 :: keysR rw).Pairwise (· < ·) from up)
      exact ⟨this.2, fun y hy => this.1 y.1 (List.mem_map.mpr ⟨y, hy, rfl⟩)⟩
    rcases List.mem_cons.mp he with rfl | h1
    · rcases List.mem_cons.mp he' with rfl | h2
      · rfl
      · have := up'.2 _ h2; omega
    · rcases List.mem_cons.mp he' with rfl | h2
      · have := up'.2 _ h1; omega
      · exact ih up'.1 h1 h2
theorem put_step {rw : List RowE} (up : (keysR rw).Pairwise (· < ·)) {e : RowE} (he : e ∈ rw) :
    putK (dI V.int (rw.map fun e => (e.1, (e.2.2 : Int)))) (Sum.inl e.1) (.int ((e.2.2 : Int) + 1)) = dI V.int ((stepR rw e.1).map fun e => (e.1, (e.2.2 : Int))) := by
  have v := val_row (g := V.int) (fun e => (e.2.2 : Int)) up he
  unfold putK
  rw [if_pos (by rw [valV_any, v]; rfl)]
  unfold dI stepR
  rw [List.map_map, List.map_map, List.map_map, List.map_map]
  refine List.map_congr_left fun e' he' => ?_
  by_cases c : e'.1 = e.1
  · have := key_inj up he he' c
    subst this
    show (if Sum.inl e'.1 = Sum.inl e'.1 then ((Sum.inl e'.1 : Key), V.int ((e'.2.2 : Int) + 1)) else _) = (Sum.inl (if e'.1 = e'.1 then (e'.1, e'.2.1, e'.2.2 + 1) else e').1, V.int (((if e'.1 = e'.1 then (e'.1, e'.2.1, e'.2.2 + 1) else e').2.2 : Nat) : Int))
    rw [if_pos rfl, if_pos rfl]
    rfl
  · show (if Sum.inl e'.1 = Sum.inl e.1 then _ else _) = (Sum.inl (if e'.1 = e.1 then (e'.1, e'.2.1, e'.2.2 + 1) else e').1, V.int (((if e'.1 = e.1 then (e'.1, e'.2.1, e'.2.2 + 1) else e').2.2 : Nat) : Int))
    rw [if_neg (fun z => c (Sum.inl.inj z)), if_neg c]
theorem step_mem {rw : List RowE} {n : Int} {e' : RowE} (h : e' ∈ stepR rw n) : ∃ e ∈ rw, e'.1 = e.1 ∧ e'.2.1 = e.2.1 ∧ e'.2.2 = if e.1 = n then e.2.2 + 1 else e.2.2 := by
  obtain ⟨e, he, rfl⟩ := List.mem_map.mp h
  by_cases c : e.1 = n
  · rw [if_pos c]; exact ⟨e, he, rfl, rfl, by rw [if_pos c]⟩
  · rw [if_neg c]; exact ⟨e, he, rfl, rfl, by rw [if_neg c]⟩
theorem wayLik_play {hd h2 : Int → Option Thg} {n : Int} : ∀ T : Tr, wayLik hd n (playT h2 T) = wayLik hd n T
  | .lf _ => rfl
  | .nd l r s f => by
    show (if n ∈ (playT h2 l).lv then wayLik hd n (playT h2 l) + both2 (wins hd (playT h2 l)) (wins hd (playT h2 r)) else wayLik hd n (playT h2 r) + both2 (wins hd (playT h2 r)) (wins hd (playT h2 l))) = if n ∈ l.lv then _ else _
    rw [playT_lv, wayLik_play l, wayLik_play r, playT_wins, playT_wins]
theorem wayLook_play {hd h2 : Int → Option Thg} {n : Int} {ko : Str} : ∀ T : Tr, wayLook hd ko n (playT h2 T) = wayLook hd ko n T
  | .lf _ => rfl
  | .nd l r s f => by
    show (if n ∈ (playT h2 l).lv then wayLook hd ko n (playT h2 l) + look3 ko (wins hd (playT h2 l)) (wins hd (playT h2 r)) else wayLook hd ko n (playT h2 r) + look3 ko (wins hd (playT h2 r)) (wins hd (playT h2 l))) = if n ∈ l.lv then _ else _
    rw [playT_lv, wayLook_play l, wayLook_play r, playT_wins, playT_wins]
theorem hdE_step {e : RowE} {t : Thg} (h : hdE (e.1, e.2.1, e.2.2 + 1) = some t) : e.2.1[e.2.2 + 1]? = some t.2.2 ∧ t.2.1 = e.2.2 + 1 := ⟨(hdE_fst h).2.2, (hdE_fst h).2.1⟩
theorem mem_step {rw : List RowE} {e : RowE} (he : e ∈ rw) : (e.1, e.2.1, e.2.2 + 1) ∈ stepR rw e.1 := List.mem_map.mpr ⟨e, he, by rw [if_pos rfl]⟩
/-- how far the next thing of the row is alike with the one that went out -/
def flR (rw : List RowE) (n : Int) (ko : Str) : Nat := match hdR rw n with
  | some t => lc t.2.2 ko
  | none => 0
def agM (M : Core) (a : Ag) : Core := ⟨M.rw, M.num, M.top, M.win, M.lik + a.lik, M.look + a.look⟩
/-- what is known of the heads ahead of the step and behind it -/
structure AgH (hd : Int → Option Thg) (M : Core) (n : Int) (fl : Nat) (ko : Str) : Prop where
  hn : ∀ k t, hd k = some t → t.1 = k
  ag : ∀ k, k ≠ n → hdR M.rw k = hd k
  fa : ∀ t, hdR M.rw n = some t → fl = lc t.2.2 ko ∧ lk ko t.2.2 ≤ 0
  len : ∀ k t, hd k = some t → t.2.2.length ≤ 100000
  alk : ∀ e ∈ M.rw, e.1 = n → ∀ t, hdE e = some t → (alk e.2.1)[e.2.2]? = some (fl : Int)
/-- what is known of a tree ahead of the step -/
structure AgT (hd : Int → Option Thg) (M : Core) (n : Int) (ko : Str) (pl : Nat) (T : Tr) : Prop where
  nd : T.lv.Nodup
  ok : OkT hd T
  win : wins hd T = some (n, pl, ko)
  lv : ∀ k ∈ T.lv, k ∈ keysR M.rw
  inn : n ∈ T.lv
/-- what is known behind the step -/
theorem agH_step {M : Core} {t : Thg} {top win : V} {lik look : Nat} (hW : WfM M) (hR : WfR M.rw) (hw : hdR M.rw t.1 = some t) :
    AgH (hdR M.rw) ⟨stepR M.rw t.1, M.num, top, win, lik, look⟩ t.1 (flR (stepR M.rw t.1) t.1 t.2.2) t.2.2 := by
  have up' : (keysR (stepR M.rw t.1)).Pairwise (· < ·) := by rw [stepR_keys]; exact hW.up
  have key : ∀ e' ∈ stepR M.rw t.1, e'.1 = t.1 → ∀ t', hdE e' = some t' → ∃ e0 ∈ M.rw, e'.2.1 = e0.2.1 ∧ e'.2.2 = e0.2.2 + 1 ∧ e0.2.1[e0.2.2]? = some t.2.2 ∧ e0.2.1[e0.2.2 + 1]? = some t'.2.2 := fun e' he' en t' ht' => by
    obtain ⟨e0, he0, a1, a2, a3⟩ := step_mem he'
    have c : e0.1 = t.1 := by rw [← a1]; exact en
    rw [if_pos c] at a3
    have h0 : hdE e0 = some t := by rw [← hdR_at hW.up he0, c]; exact hw
    have h1 := (hdE_fst ht').2.2
    rw [a2, a3] at h1
    exact ⟨e0, he0, a2, a3, (hdE_fst h0).2.2, h1⟩
  refine ⟨fun k t h => hdR_fst h, fun k hk => hdR_step_ne hk _, fun t' ht' => ?_, fun k t h => hdR_key hW h, fun e he en t' ht' => ?_⟩
  · obtain ⟨e', he', en, h1⟩ := hdR_mem ht'
    obtain ⟨e0, he0, _, _, b1, b2⟩ := key e' he' en t' h1
    have hf : flR (stepR M.rw t.1) t.1 t.2.2 = lc t'.2.2 t.2.2 := by
      unfold flR
      rw [show hdR (stepR M.rw t.1) t.1 = some t' from ht']
    exact ⟨hf, row_le (hR.row e0 he0).1 (Nat.le_succ _) b1 b2⟩
  · obtain ⟨e0, he0, c1, c2, b1, b2⟩ := key e he en t' ht'
    have hh : hdR (stepR M.rw t.1) t.1 = some t' := by
      have := hdR_at up' he
      rw [en] at this
      rw [this]; exact ht'
    unfold flR
    rw [hh, c1, c2]
    show _ = some ((lc t'.2.2 t.2.2 : Nat) : Int)
    rw [lc_comm]
    exact alk_at b1 b2
theorem wf_step {M : Core} {t : Thg} {top win : V} {lik look : Nat} (hW : WfM M) (hw : hdR M.rw t.1 = some t) : WfM ⟨stepR M.rw t.1, M.num, top, win, lik, look⟩ := by
  refine ⟨by show (keysR (stepR M.rw t.1)).Pairwise (· < ·); rw [stepR_keys]; exact hW.up, fun e he => ?_, fun e he z hz => ?_, hW.num, ?_⟩
  · obtain ⟨e0, he0, a1, a2, a3⟩ := step_mem he
    rw [a2, a3]
    have := hW.len e0 he0
    refine ⟨this.1, ?_⟩
    by_cases c : e0.1 = t.1
    · rw [if_pos c]
      have h0 : hdE e0 = some t := by rw [← hdR_at hW.up he0, c]; exact hw
      have := (List.getElem?_eq_some_iff.mp (hdE_fst h0).2.2).1
      omega
    · rw [if_neg c]; exact this.2
  · obtain ⟨e0, he0, _, a2, _⟩ := step_mem he
    rw [a2] at hz
    exact hW.key e0 he0 z hz
  · show (stepR M.rw t.1).length ≤ 16
    rw [stepR, List.length_map]; exact hW.few
/-- a merge behind a take -/
def TkR (M M' : Core) : Prop := match lstH (hdR M.rw) (keysR M.rw) with
  | none => M' = M
  | some t => M'.rw = stepR M.rw t.1 ∧ M'.num = M.num ∧ M'.top = M.top ∧ M'.lik = M.lik + wayLik (hdR (stepR M.rw t.1)) t.1 (forkT M) ∧ M'.look = M.look + wayLook (hdR (stepR M.rw t.1)) t.2.2 t.1 (forkT M)
theorem win_at {M : Core} {t : Thg} (h : lstH (hdR M.rw) (keysR M.rw) = some t) : hdR M.rw t.1 = some t ∧ t.1 ∈ keysR M.rw := by
  obtain ⟨n, hn, e⟩ := (lstH_some h).1
  have := hdR_fst e
  rw [this]; exact ⟨e, hn⟩
theorem forkT_lv {M : Core} (hW : WfM M) (h : 1 ≤ M.rw.length) : (forkT M).lv = keysR M.rw := buildF_lv 4 (by rw [keysR, List.length_map]; exact h) (by rw [keysR, List.length_map]; exact hW.few)
theorem map_step {rw : List RowE} {n : Int} (P : Int → Addr) : (stepR rw n).map (fun e : RowE => (e.1, P e.1)) = rw.map fun e => (e.1, P e.1) := by
  unfold stepR
  rw [List.map_map]
  refine List.map_congr_left fun e _ => ?_
  show ((if e.1 = n then (e.1, e.2.1, e.2.2 + 1) else e).1, P (if e.1 = n then (e.1, e.2.1, e.2.2 + 1) else e).1) = _
  by_cases c : e.1 = n
  · rw [if_pos c]
  · rw [if_neg c]
end G

namespace G
open PySem PySem.Spec PyProof.Rows L2 TL RZ

/-! ### many things go out -/
def encD (x : Str × Int × Int) : PyData := .tuple [.int x.2.1, .int x.2.2, .str x.1]
/-- so many takes behind one another -/
def TkN : Nat → Core → Core → Prop
  | 0, M, M' => M' = M
  | k + 1, M, M' => ∃ M1, TkN k M M1 ∧ TkR M1 M'
structure DueOk (M M1 : Core) (k : Nat) : Prop where
  wf : WfR M1.rw
  due : dueR M1.rw = (dueR M.rw).drop k
  keys : keysR M1.rw = keysR M.rw
theorem TkR.none {M M1 : Core} (h : TkR M M1) (e : lstH (hdR M.rw) (keysR M.rw) = none) : M1 = M := by
  unfold TkR at h; rw [e] at h; exact h
theorem TkR.some {M M1 : Core} {t : Thg} (h : TkR M M1) (e : lstH (hdR M.rw) (keysR M.rw) = some t) : M1.rw = stepR M.rw t.1 := by
  unfold TkR at h; rw [e] at h; exact h.1
theorem due_cons {rw : List RowE} (W : WfR rw) {x : Str × Int × Int} {r : List (Str × Int × Int)} (h : dueR rw = x :: r) : ∃ t, lstH (hdR rw) (keysR rw) = some t ∧ x = (t.2.2, t.1, (t.2.1 : Int)) ∧ dueR (stepR rw t.1) = r := by
  cases e : lstH (hdR rw) (keysR rw) with
  | none => rw [due_none W e] at h; cases h
  | some t =>
    rw [due_some W e] at h
    exact ⟨t, rfl, (List.cons.inj h).1.symm, (List.cons.inj h).2⟩
theorem due_nil {rw : List RowE} (W : WfR rw) (h : dueR rw = []) : lstH (hdR rw) (keysR rw) = none := by
  cases e : lstH (hdR rw) (keysR rw) with
  | none => rfl
  | some t => rw [due_some W e] at h; cases h
theorem TkR.dueOk {M M1 M2 : Core} {k : Nat} (D : DueOk M M1 k) (hk : k < (dueR M.rw).length) (h : TkR M1 M2) : DueOk M M2 (k + 1) := by
  cases ed : dueR M1.rw with
  | nil =>
    have := D.due
    rw [ed] at this
    have := congrArg List.length this
    rw [List.length_drop] at this
    simp at this
    omega
  | cons x r =>
    obtain ⟨t, e, _, e2⟩ := due_cons D.wf ed
    have e1 := h.some e
    obtain ⟨n, _, e3⟩ := (lstH_some e).1
    refine ⟨?_, ?_, ?_⟩
    · rw [e1]
      have := hdR_fst e3
      rw [this]; exact D.wf.step e3
    · rw [e1, e2]
      have := D.due
      rw [ed] at this
      rw [← List.drop_drop, ← this]; rfl
    · rw [e1, stepR_keys]; exact D.keys
theorem TkN.dueOk {M : Core} (hR : WfR M.rw) : ∀ (k : Nat) {M1 : Core}, TkN k M M1 → k ≤ (dueR M.rw).length → DueOk M M1 k
  | 0, M1, h, _ => by
    have h : M1 = M := h
    rw [h]; exact ⟨hR, rfl, rfl⟩
  | k + 1, M2, ⟨M1, h1, h2⟩, hk => h2.dueOk (TkN.dueOk hR k h1 (by omega)) hk
/-- what goes out next -/
theorem due_next {M M1 : Core} {k : Nat} (D : DueOk M M1 k) : lstH (hdR M1.rw) (keysR M1.rw) = ((dueR M.rw)[k]?).map fun x => (x.2.1, x.2.2.toNat, x.1) := by
  cases ed : dueR M1.rw with
  | nil =>
    rw [due_nil D.wf ed]
    have := D.due
    rw [ed] at this
    rw [List.getElem?_eq_none (by have := congrArg List.length this; rw [List.length_drop] at this; simp at this; omega)]
    rfl
  | cons x r =>
    obtain ⟨t, e, ex, _⟩ := due_cons D.wf ed
    have h := D.due
    rw [ed] at h
    have : (dueR M.rw)[k]? = some x := by
      have := congrArg (fun l => l[0]?) h
      simp at this
      exact this.symm
    rw [e, this, ex]
    show some t = some (t.1, ((t.2.1 : Nat) : Int).toNat, t.2.2)
    rfl
theorem due_nat {rw : List RowE} {x : Str × Int × Int} (h : x ∈ dueR rw) : ∃ j : Nat, x.2.2 = (j : Int) := by
  have := (List.mergeSort_perm (items rw) le3).subset h
  obtain ⟨e, _, h1⟩ := List.mem_flatMap.mp this
  obtain ⟨i, _, _, _, h2⟩ := itE_mem h1
  exact ⟨i, h2⟩
theorem encO_due {M : Core} {k : Nat} {x : Str × Int × Int} (h : (dueR M.rw)[k]? = some x) : encO (some (x.2.1, x.2.2.toNat, x.1)) = encD x := by
  obtain ⟨j, hj⟩ := due_nat (List.mem_of_getElem? h)
  show PyData.tuple [.int x.2.1, .int ((x.2.2.toNat : Nat) : Int), .str x.1] = PyData.tuple [.int x.2.1, .int x.2.2, .str x.1]
  rw [hj]; rfl
theorem itE_at {n : Int} {ys : List Str} {j : Nat} {y : Str} (h : ys[j]? = some y) : (itE (n, ys, 0))[j]? = some (y, n, (j : Int)) := by
  unfold itE
  have hj := (List.getElem?_eq_some_iff.mp h).1
  rw [List.getElem?_map, List.getElem?_range' (by show j < ys.length - 0; omega)]
  show some (ys.getD (0 + 1 * j) _, n, ((0 + 1 * j : Nat) : Int)) = _
  rw [Nat.zero_add, Nat.one_mul, List.getD_eq_getElem?_getD, h]
  rfl
theorem itE_len0 (n : Int) (ys : List Str) : (itE (n, ys, 0)).length = ys.length := by
  unfold itE
  rw [List.length_map, List.length_range']
  rfl
theorem items_app (a b : List RowE) : items (a ++ b) = items a ++ items b := List.flatMap_append ..
theorem items_len {yss : List (List Str)} {i : Nat} (h : ∀ ys ∈ yss, ys.length ≤ 1000) (hl : yss.length ≤ i) : (items (rwF yss)).length ≤ i * 1000 := by
  have : ∀ (rw : List RowE), (∀ e ∈ rw, e.2.1.length ≤ 1000) → (items rw).length ≤ rw.length * 1000 := fun rw => by
    induction rw with
    | nil => intro _; exact Nat.zero_le _
    | cons e rw ih =>
      intro h
      show (itE e ++ items rw).length ≤ _
      rw [List.length_append, List.length_cons]
      have h1 := ih fun x hx => h x (List.mem_cons_of_mem _ hx)
      have h2 : (itE e).length ≤ 1000 := by
        unfold itE
        rw [List.length_map, List.length_range']
        have := h e List.mem_cons_self
        omega
      omega
  have h2 := this (rwF yss) fun e he => by
    obtain ⟨_, _, _, h3, _⟩ := rwF_mem he
    exact h _ (List.mem_of_getElem? h3)
  rw [rwF_len] at h2
  have : yss.length * 1000 ≤ i * 1000 := Nat.mul_le_mul_right _ hl
  omega
theorem dI_len' {α : Type} (f : α → V) (l : List (Int × α)) : (dI f l).length = l.length := List.length_map ..
theorem due_sum (rw : List RowE) : (dueR rw).length = (rw.map fun e => e.2.1.length - e.2.2).sum := due_len rw
theorem sum_left : ∀ {rw : List RowE}, (∀ e ∈ rw, e.2.2 ≤ e.2.1.length) → (rw.map fun e => ((e.2.1.length : Int) - (e.2.2 : Int))).sum = (((rw.map fun e => e.2.1.length - e.2.2).sum : Nat) : Int)
  | [], _ => rfl
  | e :: rw, h => by
    rw [List.map_cons, List.map_cons, List.sum_cons, List.sum_cons, sum_left fun x hx => h x (List.mem_cons_of_mem _ hx)]
    have := h e List.mem_cons_self
    omega
theorem WfM.due_few {M : Core} (hW : WfM M) : (dueR M.rw).length ≤ 16000 := by
  rw [due_len]
  have : ∀ (rw : List RowE), (∀ e ∈ rw, e.2.1.length ≤ 1000) → (rw.map fun e => e.2.1.length - e.2.2).sum ≤ rw.length * 1000 := fun rw => by
    induction rw with
    | nil => intro _; exact Nat.zero_le _
    | cons e rw ih =>
      intro h
      rw [List.map_cons, List.sum_cons, List.length_cons]
      have := ih fun x hx => h x (List.mem_cons_of_mem _ hx)
      have := h e List.mem_cons_self
      omega
  have h1 := this M.rw fun e he => (hW.len e he).1
  have := hW.few
  omega
end G

namespace G
open PySem PySem.Spec PyProof.Rows L2 TL RZ LiI

/-! ### list(d.items()) -/
theorem g_litems {te : TE} {σ : L2.St} {H : Hp} {Q : VK} (h : te σ H fun x H1 => rItemsL x H1 Q) : tListItems te σ H Q := h
theorem Pu.items {B0 H0 B H : Hp} {d : Addr} {kvs : List (Key × V)} {Q : VK} (S : Pu B0 H0 B H) (hd : H d = some (.dK kvs))
    (q : ∀ p B' H' ts, Pu B0 H0 B' H' → Old B H B' H' → Same B B' → B' p = some (.lst (ts.map V.ref)) → Paired (fun (t : Addr) (q : Key × V) => B' t = some (.tup [kV q.1, q.2])) ts kvs → Q (.ref p) H') : rItemsL (.ref d) H Q := by
  refine ⟨d, kvs, rfl, hd, fun H' p ts hk hp ht hpt hl hP => ?_⟩
  have hsub : Same B fun q => if q = p ∨ q ∈ ts then H' q else B q := fun q o e => by
    have h1 := S.sub _ _ e
    have : ¬ (q = p ∨ q ∈ ts) := fun z => by
      rcases z with z | z
      · rw [z, hp] at h1; cases h1
      · rw [ht q z] at h1; cases h1
    show (if q = p ∨ q ∈ ts then H' q else B q) = _
    rw [if_neg this]; exact e
  have hfr : ∀ q, H q ≠ none → (if q = p ∨ q ∈ ts then H' q else B q) = B q := fun q hq => by
    have : ¬ (q = p ∨ q ∈ ts) := fun z => by
      rcases z with z | z
      · exact hq (z ▸ hp)
      · exact hq (ht q z)
    rw [if_neg this]
  refine q p (fun q => if q = p ∨ q ∈ ts then H' q else B q) H' ts ⟨S.kn.trans hsub, fun q o e => ?_, S.old.trans hk, fun q hq => ?_⟩ ⟨hk, hfr⟩ hsub ?_ ?_
  · have e : (if q = p ∨ q ∈ ts then H' q else B q) = some o := e
    split at e
    · exact e
    · exact hk _ _ (S.sub _ _ e)
  · have hq' : H q ≠ none := by
      cases e : H0 q with
      | none => exact absurd e hq
      | some o => rw [S.old q o e]; exact fun z => nomatch z
    rw [hfr q hq']; exact S.fr q hq
  · show (if p = p ∨ p ∈ ts then H' p else B p) = _
    rw [if_pos (.inl rfl)]; exact hl
  · have : ∀ {l : List Addr} {k : List (Key × V)}, (∀ t ∈ l, t ∈ ts) → Paired (fun (t : Addr) (q : Key × V) => H' t = some (.tup [kV q.1, q.2])) l k → Paired (fun (t : Addr) (q : Key × V) => (if t = p ∨ t ∈ ts then H' t else B t) = some (.tup [kV q.1, q.2])) l k := fun hsub hP => by
      induction hP with
      | nil => exact .nil
      | cons h _ ih => exact .cons (by rw [if_pos (.inr (hsub _ List.mem_cons_self))]; exact h) (ih fun t ht => hsub t (List.mem_cons_of_mem _ ht))
    exact this (fun t h => h) hP
end G

namespace G
open PySem PySem.Spec PyProof.Rows L2 TL RZ

/-! ### the laws' own keeping beside a merge -/
def ownF (p1 p2 : Addr) (num lik look : Int) : List (Key × V) := [(Sum.inr (Str.ofString "rows"), .ref p1), (Sum.inr (Str.ofString "gone"), .ref p2), (Sum.inr (Str.ofString "number"), .int num), (Sum.inr (Str.ofString "likenings"), .int lik), (Sum.inr (Str.ofString "looks"), .int look)]
section
variable {p1 p2 : Addr} {num lik look : Int}
theorem ow_rows : valV (ownF p1 p2 num lik look) (Sum.inr (Str.ofString "rows")) = some (.ref p1) := by rfl
theorem ow_gone : valV (ownF p1 p2 num lik look) (Sum.inr (Str.ofString "gone")) = some (.ref p2) := by rfl
theorem ow_num : valV (ownF p1 p2 num lik look) (Sum.inr (Str.ofString "number")) = some (.int num) := by rfl
theorem ow_lik : valV (ownF p1 p2 num lik look) (Sum.inr (Str.ofString "likenings")) = some (.int lik) := by rfl
theorem ow_look : valV (ownF p1 p2 num lik look) (Sum.inr (Str.ofString "looks")) = some (.int look) := by rfl
theorem owp_lik {k : Int} : putK (ownF p1 p2 num lik look) (Sum.inr (Str.ofString "likenings")) (.int k) = ownF p1 p2 num k look := by rfl
theorem owp_look {k : Int} : putK (ownF p1 p2 num lik look) (Sum.inr (Str.ofString "looks")) (.int k) = ownF p1 p2 num lik k := by rfl
end
def coreOf (rw : List RowE) : Core := ⟨rw, 0, .non, .non, 0, 0⟩
structure IsO (B H : Hp) (po : Addr) (rw : List RowE) (num lik look : Int) (Z : List Addr) : Prop where
  ex : ∃ p1 p2, ∃ P : Int → Addr, Z = [po, p1, p2] ∧ H po = some (.dK (ownF p1 p2 num lik look)) ∧ H p1 = some (.dK (dI V.ref (rw.map fun e => (e.1, P e.1)))) ∧ H p2 = some (.dK (dI V.int (rw.map fun e => (e.1, (e.2.2 : Int))))) ∧ ∀ e ∈ rw, B (P e.1) = some (.lst (e.2.1.map V.str))
  nd : Z.Nodup
theorem IsO.mono {B H B' H' : Hp} {po : Addr} {rw : List RowE} {num lik look : Int} {Z : List Addr} (I : IsO B H po rw num lik look Z) (k : Same B B') (hv : ∀ q ∈ Z, ∀ o, H q = some o → H' q = some o) : IsO B' H' po rw num lik look Z := by
  obtain ⟨⟨p1, p2, P, rfl, h1, h2, h3, h4⟩, nd⟩ := I
  exact ⟨⟨p1, p2, P, rfl, hv _ (by simp) _ h1, hv _ (by simp) _ h2, hv _ (by simp) _ h3, fun e he => k _ _ (h4 e he)⟩, nd⟩
def vZ : Option Thg → V
  | none => .non
  | some t => .str t.2.2
theorem ixZ {e : RowE} (h : e.2.2 ≤ e.2.1.length) : (e.2.1.map V.str ++ [V.non])[e.2.2]? = some (vZ (hdE e)) := by
  by_cases c : e.2.2 < e.2.1.length
  · rw [List.getElem?_append_left (by rw [List.length_map]; exact c), List.getElem?_map]
    unfold hdE
    rw [List.getElem?_eq_getElem c]
    rfl
  · rw [List.getElem?_append_right (by rw [List.length_map]; omega), List.length_map, show e.2.2 - e.2.1.length = 0 by omega]
    unfold hdE
    have hn : e.2.1[e.2.2]? = none := List.getElem?_eq_none (by omega)
    rw [hn]
    rfl
/-- the heads by numbers -/
def hdD (rw : List RowE) : List (Key × V) := dI vZ (rw.map fun e => (e.1, hdE e))
theorem entry_at {rw : List RowE} {n : Int} (h : n ∈ keysR rw) : ∃ e ∈ rw, e.1 = n := by
  obtain ⟨e, he, e1⟩ := List.mem_map.mp h
  exact ⟨e, he, e1⟩
theorem hdD_at {rw : List RowE} (up : (keysR rw).Pairwise (· < ·)) {n : Int} (h : n ∈ keysR rw) : valV (hdD rw) (Sum.inl n) = some (vZ (hdR rw n)) := by
  obtain ⟨e, he, rfl⟩ := List.mem_map.mp h
  rw [hdR_at up he]
  exact val_row (g := vZ) (fun e => hdE e) up he
theorem hd_ok {rw : List RowE} (hk : ∀ e ∈ rw, ∀ z ∈ e.2.1, PyData.strOk z = true) : ∀ n t, hdR rw n = some t → t.1 = n ∧ PyData.strOk t.2.2 = true := fun n t h => ⟨hdR_fst h, by
  obtain ⟨e, he, _, h2⟩ := hdR_mem h
  exact hk e he _ (List.mem_of_getElem? (hdE_fst h2).2.2)⟩
theorem hdD_keys (rw : List RowE) : (hdD rw).map (·.1) = (keysR rw).map Sum.inl := by
  unfold hdD dI keysR
  rw [List.map_map, List.map_map, List.map_map]; rfl
structure PlO where
  po : Addr
  rw : List RowE
  num : Int
  lik : Int
  look : Int
  Z : List Addr
def forkW (rw : List RowE) : Tr := buildF 4 (keysR rw)
/-- what the own keeping is behind a take -/
def TkO (rw : List RowE) (lik look : Int) (rw' : List RowE) (lik' look' : Int) : Prop := match lstH (hdR rw) (keysR rw) with
  | none => rw' = rw ∧ lik' = lik ∧ look' = look
  | some t => rw' = stepR rw t.1 ∧ lik' = lik + (wayLik (hdR (stepR rw t.1)) t.1 (forkW rw) : Int) ∧ look' = look + (wayLook (hdR (stepR rw t.1)) t.2.2 t.1 (forkW rw) : Int)
theorem IsO.some_ {B H : Hp} {po : Addr} {rw : List RowE} {num lik look : Int} {Z : List Addr} (I : IsO B H po rw num lik look Z) : ∀ q ∈ Z, H q ≠ none := fun q hq => by
  obtain ⟨⟨p1', p2', P', eZ', a1, a2, a3, _⟩, _⟩ := I
  rw [eZ'] at hq
  simp only [List.mem_cons, List.not_mem_nil, or_false] at hq
  rcases hq with h | h | h
  · rw [h, a1]; exact fun z => nomatch z
  · rw [h, a2]; exact fun z => nomatch z
  · rw [h, a3]; exact fun z => nomatch z
theorem IsO.step {B H B' H' : Hp} {po : Addr} {rw : List RowE} {num lik look : Int} {Z : List Addr} (I : IsO B H po rw num lik look Z) (hb : ∀ q ∈ Z, B q = none) (O : Old B H B' H') (k : Same B B') : IsO B' H' po rw num lik look Z ∧ ∀ q ∈ Z, B' q = none :=
  ⟨I.mono k fun q _ o e => O.st _ _ e, fun q hq => by rw [O.fr q (I.some_ q hq)]; exact hb q hq⟩
theorem IsO.set {B H : Hp} {po : Addr} {rw : List RowE} {num lik look : Int} {Z : List Addr} (I : IsO B H po rw num lik look Z) : ∃ p1 p2, H po = some (.dK (ownF p1 p2 num lik look)) ∧ po ∈ Z ∧ ∀ lik' look', IsO B (upd H po (.dK (ownF p1 p2 num lik' look'))) po rw num lik' look' Z := by
  obtain ⟨⟨p1, p2, P, eZ, a1, a2, a3, a4⟩, nd⟩ := I
  have nd' := nd
  rw [eZ] at nd'
  simp only [List.nodup_cons, List.mem_cons, List.not_mem_nil, or_false, not_or, not_false_eq_true, List.nodup_nil, and_true] at nd'
  obtain ⟨⟨n1, n2⟩, n3⟩ := nd'
  exact ⟨p1, p2, a1, by rw [eZ]; simp, fun lik' look' => ⟨⟨p1, p2, P, eZ, upd_same, (upd_ne (Ne.symm n1)).trans a2, (upd_ne (Ne.symm n2)).trans a3, a4⟩, nd⟩⟩
theorem sum_snoc {α : Type} {L : List α} {f : α → Nat} {i : Nat} {x : α} (h : L[i]? = some x) : ((L.take (i + 1)).map f).sum = ((L.take i).map f).sum + f x := by
  rw [List.take_succ, h, List.map_append, List.sum_append]
  simp
def optZ : Option Thg → PyData
  | none => .none
  | some t => .str t.2.2
def encHd (e : RowE) : PyData := .tuple [.int e.1, optZ (hdE e)]
theorem initM_wfR {yss : List (List Str)} (hl : yss.length ≤ 16) (hy : ∀ ys ∈ yss, G.Row ys ∧ ys.length ≤ 1000 ∧ ∀ z ∈ ys, z.length ≤ 100000) : WfR (rwF yss) :=
  ⟨(initM_wf hl fun ys h => (hy ys h).2).up, fun e he => by
    obtain ⟨i, _, _, h, h0⟩ := rwF_mem he
    exact ⟨(hy _ (List.mem_of_getElem? h)).1, by rw [h0]; exact Nat.zero_le _⟩⟩
theorem dt_vZ {B : Hp} (o : Option Thg) : Dt B (vZ o) (optZ o) := by
  cases o with
  | none => exact .non
  | some t => exact .str _
theorem dt_items {B : Hp} : ∀ {rw : List RowE} {ts : List Addr}, Paired (fun (t : Addr) (q : Key × V) => B t = some (.tup [kV q.1, q.2])) ts (hdD rw) → Dts B (ts.map V.ref) (rw.map encHd)
  | [], [], _ => .nil
  | e :: rw, t :: ts, h => by
    have h : Paired (fun (t : Addr) (q : Key × V) => B t = some (.tup [kV q.1, q.2])) (t :: ts) ((Sum.inl e.1, vZ (hdE e)) :: hdD rw) := h
    cases h with
    | cons h1 h2 => exact .cons (.tup h1 (.cons (.int _) (.cons (dt_vZ _) .nil))) (dt_items h2)
theorem fits_Hd {rw_ : List RowE} (hl : rw_.length ≤ 16) (hk : ∀ e ∈ rw_, ∀ z ∈ e.2.1, PyData.strOk z = true) {n : Nat} : Fits (n + 2) (.list (rw_.map encHd)) := fits_map (by omega) fun e he => fits_tup (Nat.le_of_ble_eq_true rfl) (allc fits_int (all1 (by
  cases h : hdE e with
  | none => exact fits_non
  | some t => exact fits_str (hk e he _ (List.mem_of_getElem? (hdE_fst h).2.2)))))
theorem fits_O {hd : Int → Option Thg} {ns : List Int} (hk : ∀ n t, hd n = some t → PyData.strOk t.2.2 = true) {n : Nat} : Fits (n + 1) (encO (lstH hd ns)) := by
  cases e : lstH hd ns with
  | none => exact fits_non
  | some t =>
    obtain ⟨⟨m, _, e1⟩, _⟩ := lstH_some e
    exact fits_tup (Nat.le_of_ble_eq_true rfl) (allc fits_int (allc fits_int (all1 (fits_str (hk m t e1)))))
/-- a row: keys in order -/
def RowK (ys : List Str) : Prop := G.Row ys ∧ ys.length ≤ 20 ∧ ∀ z ∈ ys, Ky 28 z
theorem tk_same {M M2 : Core} {rw' : List RowE} {lik' look' : Int} (a : TkR M M2) (b : TkO M.rw (M.lik : Int) (M.look : Int) rw' lik' look') : rw' = M2.rw ∧ lik' = (M2.lik : Int) ∧ look' = (M2.look : Int) := by
  unfold TkR at a
  unfold TkO at b
  cases e : lstH (hdR M.rw) (keysR M.rw) with
  | none =>
    rw [e] at a b
    have a : M2 = M := a
    rw [a]; exact b
  | some t =>
    rw [e] at a b
    obtain ⟨a1, _, _, a2, a3⟩ := a
    obtain ⟨b1, b2, b3⟩ := b
    exact ⟨by rw [a1, b1], by rw [a2, b2]; rfl, by rw [a3, b3]; rfl⟩
theorem tk_keep {M M2 : Core} (a : TkR M M2) (h : ∀ e ∈ M.rw, ∀ z ∈ e.2.1, PyData.strOk z = true) : ∀ e ∈ M2.rw, ∀ z ∈ e.2.1, PyData.strOk z = true := by
  unfold TkR at a
  cases e : lstH (hdR M.rw) (keysR M.rw) with
  | none =>
    rw [e] at a
    have a : M2 = M := a
    rw [a]; exact h
  | some t =>
    rw [e] at a
    rw [a.1]
    intro e' he' z hz
    obtain ⟨e0, he0, _, c2, _⟩ := step_mem he'
    rw [c2] at hz
    exact h e0 he0 z hz
structure SamM (M N : Core) : Prop where
  rw : M.rw = N.rw
  lik : M.lik = N.lik
  look : M.look = N.look
theorem SamM.step {M N M1 N1 : Core} (h : SamM M N) (a : TkR M M1) (b : TkR N N1) : SamM M1 N1 := by
  unfold TkR at a b
  have ef : forkT M = forkT N := by unfold forkT; rw [h.rw]
  rw [← h.rw] at b
  cases e : lstH (hdR M.rw) (keysR M.rw) with
  | none =>
    rw [e] at a b
    rw [a, b]; exact h
  | some t =>
    rw [e] at a b
    obtain ⟨a1, _, _, a2, a3⟩ := a
    obtain ⟨b1, _, _, b2, b3⟩ := b
    exact ⟨by rw [a1, b1], by rw [a2, b2, h.lik, ef], by rw [a3, b3, h.look, ef]⟩
theorem SamM.many {M N : Core} (h : SamM M N) : ∀ (k : Nat) {M1 N1 : Core}, TkN k M M1 → TkN k N N1 → SamM M1 N1
  | 0, M1, N1, a, b => by
    have a : M1 = M := a
    have b : N1 = N := b
    rw [a, b]; exact h
  | k + 1, M1, N1, ⟨_, a1, a2⟩, ⟨_, b1, b2⟩ => (h.many k a1 b1).step a2 b2
theorem sum_lens (yss : List (List Str)) : (yss.map fun ys => (ys.length : Int)).sum = ((dueR (rwF yss)).length : Int) := by
  rw [due_len]
  have : (rwF yss).map (fun e => e.2.1.length - e.2.2) = yss.map List.length := by
    unfold rwF
    rw [List.map_map]
    have : yss.map List.length = (yss.zipIdx.map Prod.fst).map List.length := by rw [List.zipIdx_map_fst]
    rw [this, List.map_map]
    rfl
  rw [this]
  induction yss with
  | nil => rfl
  | cons ys yss ih =>
    rw [List.map_cons, List.map_cons, List.sum_cons, List.sum_cons, ih (by
      unfold rwF
      rw [List.map_map]
      have : yss.map List.length = (yss.zipIdx.map Prod.fst).map List.length := by rw [List.zipIdx_map_fst]
      rw [this, List.map_map]
      rfl)]
    omega
section
variable {σ : L2.St} {H : Hp} {Q : VK} {g : TG} {tt : TT} {te : TE} {vs : List Nat} {J : It} {n : Nat} {Gd : Hp → Prop} {Y : Nat → V → Hp → Hp → Prop}
/-- a list comprehension: what changes elsewhere stands in it; its list may change -/
theorem lcx {a : Addr} {B0 H0 B H : Hp} {k cost : Nat} (S : G.St a B0 H0 k B H) (W : Wk J n Gd Y) (hn : n ≤ 1000000) (hk : n * cost ≤ k) (hG : ∀ H', Same B H' → Gd H') (I : Nat → Hp → List V → Prop) (h0 : I 0 B [])
    (hs : ∀ (i : Nat) x acc B1 H1 H1' k1, i < n → Same B B1 → Oth a B H B1 H1 → G.St a B1 H1 k1 B1 H1 → cost ≤ k1 → Y i x H1 H1' → I i B1 acc → acc.length ≤ i → ∀ (Qk : VK) (Qn : Hp → Prop), (∀ v B2 H2, G.St a B1 H1 (k1 - cost) B2 H2 → I (i + 1) B2 (acc ++ [v]) → Qk v H2) →
      (∀ B2 H2, G.St a B1 H1 (k1 - cost) B2 H2 → I (i + 1) B2 acc → Qn H2) → g x (wipe σ vs) H1' (LcT tt te vs σ Qk Qn))
    (q : ∀ p B' H' acc, G.St a B0 H0 (k - n * cost) B' H' → Oth a B H B' H' → Same B B' → H p = none → H' p = some (.lst acc) → B' p = none → H0 p = none → p ≠ a → I n B' acc → Q (.ref p) H') : LcB g tt te vs σ Q J H := by
  intro D hD
  have hD0 : H0 D = none := S.free0 hD
  have hDa : D ≠ a := S.nea hD
  refine ⟨fun i m H' => m = n - i ∧ i ≤ n ∧ ∃ B1 acc, G.St a B0 H0 (k - i * cost) B1 H' ∧ Oth a B H B1 H' ∧ Same B B1 ∧ B1 D = none ∧ H' D = some (.lst acc) ∧ acc.length ≤ i ∧ I i B1 acc,
    ⟨n, by simp, Nat.zero_le _, B, [], (S.vol hD).le (by omega), ⟨fun q u _ e => Same.updN hD q u e, fun _ _ => rfl⟩, Same.refl _, S.free hD, upd_same, Nat.le_refl _, h0⟩, ?_⟩
  rintro i m H1 ⟨rfl, hi, B1, acc, S1, O1, K1, hb, hx, hl, hI⟩
  have g1 : Gd H1 := hG _ (K1.trans S1.sub)
  have some_ : ∀ q, H q ≠ none → H1 q ≠ none := fun q hq => by
    by_cases hqa : q = a
    · rw [hqa]; exact S1.has
    · cases z : H q with
      | none => exact absurd z hq
      | some u => rw [O1.st q u hqa z]; exact fun z => nomatch z
  by_cases hlt : i < n
  · have c1 : (i + 1) * cost ≤ n * cost := Nat.mul_le_mul_right _ hlt
    have c2 : (i + 1) * cost = i * cost + cost := Nat.succ_mul _ _
    refine .inr ⟨W.go i H1 hlt g1, fun H2 => ∃ B2 acc', G.St a B0 H0 (k - (i + 1) * cost) B2 H2 ∧ Oth a B H B2 H2 ∧ Same B B2 ∧ B2 D = none ∧ H2 D = some (.lst acc') ∧ acc'.length ≤ i + 1 ∧ I (i + 1) B2 acc', fun H2 p => ⟨n - (i + 1), by omega, rfl, hlt, p⟩, fun x H1' y => ?_⟩
    refine hs i x acc B1 H1 H1' (k - i * cost) hlt K1 O1 (.new S1.sub S1.left S1.na) (by omega) (W.yld i H1 x H1' hlt g1 y) hI hl _ _ (fun v B2 H2 S2 r => ?_) (fun B2 H2 S2 r => ?_)
    · have hx2 : H2 D = some (.lst acc) := S2.oth _ _ hDa hx
      have hb2 : B2 D = none := by rw [S2.fr D (by rw [hx]; exact fun z => nomatch z)]; exact hb
      have S3 := S1.trans S2
      exact ⟨acc, hx2, szl'' (by omega), B2, acc ++ [v], (S3.put hD0 hb2 hDa).le (by omega), ⟨fun q u hqa e => by
          have : q ≠ D := fun z => by rw [z, hD] at e; cases e
          rw [upd_ne this]; exact S2.oth _ _ hqa (O1.st q u hqa e), fun q hq => by rw [S2.fr q (some_ q hq)]; exact O1.fr q hq⟩, K1.trans S2.kn, hb2, upd_same, by rw [List.length_append]; exact Nat.succ_le_succ hl, r⟩
    · have hx2 : H2 D = some (.lst acc) := S2.oth _ _ hDa hx
      have hb2 : B2 D = none := by rw [S2.fr D (by rw [hx]; exact fun z => nomatch z)]; exact hb
      exact ⟨B2, acc, (S1.trans S2).le (by omega), ⟨fun q u hqa e => S2.oth _ _ hqa (O1.st q u hqa e), fun q hq => by rw [S2.fr q (some_ q hq)]; exact O1.fr q hq⟩, K1.trans S2.kn, hb2, hx2, Nat.le_succ_of_le hl, r⟩
  · have e : i = n := by omega
    subst e
    exact .inl ⟨W.stop H1 g1, q D B1 H1 acc S1 O1 K1 hD hx hb hD0 hDa hI⟩
end
theorem fits_rows {yss : List (List Str)} {n : Nat} (hl : yss.length ≤ 1000) (h : ∀ ys ∈ yss, RowK ys) : Fits (n + 2) (rowsD yss) :=
  fits_map (by omega) fun ys hy => fits_map (by have := (h ys hy).2.1; omega) fun z hz => fits_str ((h ys hy).2.2 z hz).ok
theorem rows_ok {yss : List (List Str)} (h : ∀ ys ∈ yss, RowK ys) : ∀ ys ∈ yss, G.Row ys ∧ ys.length ≤ 1000 ∧ ∀ z ∈ ys, z.length ≤ 100000 := fun ys hy =>
  ⟨(h ys hy).1, by have := (h ys hy).2.1; omega, fun z hz => by have := ((h ys hy).2.2 z hz).len; omega⟩
theorem same_vol {B H : Hp} {p : Addr} {xs : List V} {y : V} {ds : List PyData} {Q : VK} {E : XK} (s : Same B H) (hb : B p = none) (hp : H p = some (.lst xs)) (h : Dts B xs ds) (hy : Dt B y (.list ds)) (f : Fits 25 (.list ds)) (q : ∀ H', Same H H' → Q (.bl true) H') : spSame 26 [.ref p, y] H Q E :=
  have k : Same B (upd B p (.lst xs)) := Same.updN hb
  ⟨.ref p, y, upd B p (.lst xs), rfl, fun q o e => by
    by_cases z : q = p
    · rw [z, upd_same] at e; rw [z, hp]; exact e
    · rw [upd_ne z] at e; exact s _ _ e, Dt.sm f (.lst upd_same (h.mono k)) (hy.mono k), q⟩
theorem due_ky {yss : List (List Str)} (h : ∀ ys ∈ yss, RowK ys) : ∀ x ∈ dueR (rwF yss), Ky 28 x.1 := fun x hx => by
  have h1 := (List.mergeSort_perm (items (rwF yss)) le3).subset hx
  obtain ⟨e, he, h2⟩ := List.mem_flatMap.mp h1
  obtain ⟨i, _, h3, _, _⟩ := itE_mem h2
  obtain ⟨_, _, _, h4, _⟩ := rwF_mem he
  exact (h _ (List.mem_of_getElem? h4)).2.2 _ (List.mem_of_getElem? h3)
theorem due_le {yss : List (List Str)} (hl : yss.length ≤ 12) (h : ∀ ys ∈ yss, RowK ys) : (dueR (rwF yss)).length ≤ 16000 :=
  (initM_wf (by omega) fun ys hy => (rows_ok h ys hy).2).due_few
/-! both together -/
def tk_make {M : Core} {rw' : List RowE} {lik' look' : Int} (b : TkO M.rw (M.lik : Int) (M.look : Int) rw' lik' look') : ∃ M1 : Core, TkR M M1 ∧ M1.num = M.num ∧ rw' = M1.rw ∧ lik' = (M1.lik : Int) ∧ look' = (M1.look : Int) := by
  unfold TkO at b
  unfold TkR
  cases e : lstH (hdR M.rw) (keysR M.rw) with
  | none =>
    rw [e] at b
    exact ⟨M, rfl, rfl, b⟩
  | some t =>
    rw [e] at b
    obtain ⟨b1, b2, b3⟩ := b
    exact ⟨⟨stepR M.rw t.1, M.num, M.top, M.win, M.lik + wayLik (hdR (stepR M.rw t.1)) t.1 (forkT M), M.look + wayLook (hdR (stepR M.rw t.1)) t.2.2 t.1 (forkT M)⟩, ⟨rfl, rfl, rfl, rfl, rfl⟩, rfl, b1, by rw [b2]; rfl, by rw [b3]; rfl⟩
theorem TkR.wfR {M M1 : Core} (h : TkR M M1) (hR : WfR M.rw) : WfR M1.rw := by
  by_cases c : 0 < (dueR M.rw).length
  · exact (TkR.dueOk (M := M) (M1 := M) (k := 0) ⟨hR, rfl, rfl⟩ c h).wf
  · have : dueR M.rw = [] := List.eq_nil_of_length_eq_zero (by omega)
    rw [h.none (due_nil hR this)]; exact hR
theorem TkR.num {M M1 : Core} (h : TkR M M1) : M1.num = M.num := by
  unfold TkR at h
  cases e : lstH (hdR M.rw) (keysR M.rw) with
  | none => rw [e] at h; have h : M1 = M := h; rw [h]
  | some t => rw [e] at h; exact h.2.1
theorem TkR.keys {M M1 : Core} (h : TkR M M1) : M1.rw.map (fun e => (e.1, e.2.1)) = M.rw.map fun e => (e.1, e.2.1) := by
  unfold TkR at h
  cases e : lstH (hdR M.rw) (keysR M.rw) with
  | none => rw [e] at h; have h : M1 = M := h; rw [h]
  | some t =>
    rw [e] at h
    rw [h.1]
    unfold stepR
    rw [List.map_map]
    refine List.map_congr_left fun e _ => ?_
    show ((if e.1 = t.1 then (e.1, e.2.1, e.2.2 + 1) else e).1, (if e.1 = t.1 then (e.1, e.2.1, e.2.2 + 1) else e).2.1) = _
    split <;> rfl
theorem keys_mem {rw1 rw2 : List RowE} (h : rw1.map (fun e => (e.1, e.2.1)) = rw2.map fun e => (e.1, e.2.1)) {e : RowE} (he : e ∈ rw1) : ∃ e' ∈ rw2, e'.1 = e.1 ∧ e'.2.1 = e.2.1 := by
  have : (e.1, e.2.1) ∈ rw2.map fun e => (e.1, e.2.1) := by rw [← h]; exact List.mem_map.mpr ⟨e, he, rfl⟩
  obtain ⟨e', h1, h2⟩ := List.mem_map.mp this
  exact ⟨e', h1, (Prod.mk.inj h2).1, (Prod.mk.inj h2).2⟩
/-- a merge and what the law keeps of it stand alike -/
structure Both (CM CG l : Addr) (H0 B H : Hp) (x po : Addr) (M : Core) (Z W Zo : List Addr) : Prop where
  m : IsM CM CG B H x M Z W
  o : IsO B H po M.rw (M.num : Int) (M.lik : Int) (M.look : Int) Zo
  zm : ∀ q ∈ Z ++ W, B q = none ∧ H0 q = none ∧ q ≠ l
  zo : ∀ q ∈ Zo, B q = none ∧ H0 q = none ∧ q ≠ l
  dj : ∀ q ∈ Zo, q ∉ Z ++ W
  wr : WfR M.rw
  kk : ∀ e ∈ M.rw, ∀ z ∈ e.2.1, Ky 80 z
  lt : ∀ e ∈ M.rw, e.1 < (M.num : Int)
section
variable {CM CG l : Addr} {H0 B H B' H' : Hp} {x po : Addr} {M M1 : Core} {Z W Zo : List Addr}
theorem Both.ok (I : Both CM CG l H0 B H x po M Z W Zo) : ∀ e ∈ M.rw, ∀ z ∈ e.2.1, PyData.strOk z = true := fun e he z hz => (I.kk e he z hz).ok
theorem Both.wfc (I : Both CM CG l H0 B H x po M Z W Zo) : WfM (coreOf M.rw) := ⟨I.m.wf.up, I.m.wf.len, I.m.wf.key, Nat.zero_le _, I.m.wf.few⟩
theorem Both.dj' (I : Both CM CG l H0 B H x po M Z W Zo) : ∀ q ∈ Z ++ W, q ∉ Zo := fun q hq z => I.dj q z hq
theorem Both.out (I : Both CM CG l H0 B H x po M Z W Zo) {q : Addr} (h : H0 q ≠ none ∨ q = l ∨ B q ≠ none) : q ∉ Z ++ W ∧ q ∉ Zo := by
  refine ⟨fun z => ?_, fun z => ?_⟩
  · obtain ⟨a, b, c⟩ := I.zm q z
    rcases h with h | h | h
    · exact h b
    · exact c h
    · exact h a
  · obtain ⟨a, b, c⟩ := I.zo q z
    rcases h with h | h | h
    · exact h b
    · exact c h
    · exact h a
/-- what changes elsewhere -/
theorem Both.move (I : Both CM CG l H0 B H x po M Z W Zo) (K : Same B B') (hv : ∀ q, q ∈ Z ++ W ∨ q ∈ Zo → ∀ o, H q = some o → H' q = some o) (hf : ∀ q, q ∈ Z ++ W ∨ q ∈ Zo → H q ≠ none → B' q = B q) : Both CM CG l H0 B' H' x po M Z W Zo :=
  ⟨I.m.mono K fun q hq => hv q (.inl hq), I.o.mono K fun q hq => hv q (.inr hq), fun q hq => by rw [hf q (.inl hq) (I.m.some_ q hq)]; exact I.zm q hq, fun q hq => by rw [hf q (.inr hq) (I.o.some_ q hq)]; exact I.zo q hq, I.dj, I.wr, I.kk, I.lt⟩
theorem Both.step (I : Both CM CG l H0 B H x po M Z W Zo) (O : Oth l B H B' H') (K : Same B B') : Both CM CG l H0 B' H' x po M Z W Zo :=
  I.move K (fun q hq o e => O.st q o (hq.elim (fun h => (I.zm q h).2.2) fun h => (I.zo q h).2.2) e) fun q _ e => O.fr q e
theorem Both.pure (I : Both CM CG l H0 B H x po M Z W Zo) (s : Same H H') : Both CM CG l H0 B H' x po M Z W Zo := I.move (Same.refl _) (fun q _ o e => s _ _ e) fun _ _ _ => rfl
theorem Both.put {p : Addr} {o : HO} (I : Both CM CG l H0 B H x po M Z W Zo) (hp : p ∉ Z ++ W ∧ p ∉ Zo) : Both CM CG l H0 B (upd H p o) x po M Z W Zo :=
  I.move (Same.refl _) (fun q hq o e => by
    have : q ≠ p := fun z => hq.elim (fun h => hp.1 (by rw [← z]; exact h)) fun h => hp.2 (by rw [← z]; exact h)
    rw [upd_ne this]; exact e) fun _ _ _ => rfl
theorem Both.know {p : Addr} {o : HO} (I : Both CM CG l H0 B H x po M Z W Zo) (hp : p ∉ Z ++ W ∧ p ∉ Zo) (hb : B p = none) : Both CM CG l H0 (upd B p o) H x po M Z W Zo :=
  I.move (Same.updN hb) (fun _ _ _ e => e) fun q hq _ => upd_ne fun z => hq.elim (fun h => hp.1 (by rw [← z]; exact h)) fun h => hp.2 (by rw [← z]; exact h)
theorem Both.hide {V : List Addr} (I : Both CM CG l H0 B H x po M Z W Zo) : ∀ q ∈ Z ++ W, hid (Z ++ W) H q = none := fun q hq => hid_in hq
/-- one thing more on both sides -/
theorem Both.took {B1 H1 B2 H2 : Hp} {rw' : List RowE} {lik' look' : Int} (I : Both CM CG l H0 B H x po M Z W Zo) (I1 : IsM CM CG B1 H1 x M1 Z W) (T : TkR M M1) (O1 : OldV (Z ++ W) B H B1 H1) (K1 : Same B B1) (hz1 : ∀ q ∈ Z ++ W, B1 q = none)
    (TO : TkO M.rw (M.lik : Int) (M.look : Int) rw' lik' look') (Q2 : IsO B2 H2 po rw' (M.num : Int) lik' look' Zo) (O2 : OldV Zo B1 H1 B2 H2) (K2 : Same B1 B2) (hz2 : ∀ q ∈ Zo, B2 q = none) : Both CM CG l H0 B2 H2 x po M1 Z W Zo := by
  obtain ⟨e1, e2, e3⟩ := tk_same T TO
  subst e1
  subst e2
  subst e3
  rw [← T.num] at Q2
  refine ⟨I1.mono K2 fun q hq o e => O2.st q o (I.dj' q hq) e, Q2, fun q hq => ⟨?_, (I.zm q hq).2⟩, fun q hq => ⟨hz2 q hq, (I.zo q hq).2⟩, I.dj, T.wfR I.wr, fun e he z hz => ?_, fun e he => ?_⟩
  · rw [O2.fr q (I.dj' q hq) (I1.some_ q hq)]; exact hz1 q hq
  · obtain ⟨e', h1, _, h3⟩ := keys_mem T.keys he
    rw [← h3] at hz
    exact I.kk e' h1 z hz
  · obtain ⟨e', h1, h2, _⟩ := keys_mem T.keys he
    rw [← h2, T.num]
    exact I.lt e' h1
end
end G

namespace G
open PySem PySem.Spec PyProof.Rows L2 TL RZ

/-! ### a row more -/
def layM (M : Core) (ys : List Str) : Core := ⟨M.rw ++ [((M.num : Int), ys, 0)], M.num + 1, M.top, M.win, M.lik, M.look⟩
theorem layM_len {M : Core} {ys : List Str} : (layM M ys).rw.length = M.rw.length + 1 := by unfold layM; rw [List.length_append]; rfl
theorem layM_wf {M : Core} {ys : List Str} (hW : WfM M) (hk : ∀ e ∈ M.rw, e.1 < (M.num : Int)) (hf : M.rw.length < 16) (hn : M.num < 1000) (hy : ys.length ≤ 1000) (hz : ∀ z ∈ ys, z.length ≤ 100000) : WfM (layM M ys) := by
  refine ⟨?_, fun e he => ?_, fun e he z hz' => ?_, ?_, ?_⟩
  · show (keysR (M.rw ++ [((M.num : Int), ys, 0)])).Pairwise (· < ·)
    unfold keysR
    rw [List.map_append]
    refine List.pairwise_append.mpr ⟨hW.up, List.pairwise_singleton _ _, fun a ha b hb => ?_⟩
    obtain ⟨e, he, rfl⟩ := List.mem_map.mp ha
    rw [List.mem_singleton.mp hb]
    exact hk e he
  · rcases List.mem_append.mp he with he | he
    · exact hW.len e he
    · rw [List.mem_singleton.mp he]; exact ⟨hy, Nat.zero_le _⟩
  · rcases List.mem_append.mp he with he | he
    · exact hW.key e he z hz'
    · rw [List.mem_singleton.mp he] at hz'; exact hz z hz'
  · show M.num + 1 ≤ 1000; omega
  · show (M.rw ++ [((M.num : Int), ys, 0)]).length ≤ 16
    rw [List.length_append]
    show M.rw.length + 1 ≤ 16
    omega
theorem owp_num {p1 p2 : Addr} {num lik look k : Int} : putK (ownF p1 p2 num lik look) (Sum.inr (Str.ofString "number")) (.int k) = ownF p1 p2 k lik look := by rfl
theorem put_rows {f : α → V} {rw : List RowE} {num : Nat} {F : RowE → α} {x : α} (hk : ∀ e ∈ rw, e.1 < (num : Int)) : putK (dI f (rw.map fun e => (e.1, F e))) (Sum.inl (num : Int)) (f x) = dI f ((rw.map fun e => (e.1, F e)) ++ [((num : Int), x)]) :=
  put_new fun h => by
    rw [List.map_map] at h
    obtain ⟨e, he, e1⟩ := List.mem_map.mp h
    have h1 := hk e he
    have e1 : e.1 = (num : Int) := e1
    omega
/-- what must be laid to keep one row more -/
theorem IsO.lay {B H : Hp} {po : Addr} {rw_ : List RowE} {num : Nat} {lik look : Int} {Z : List Addr} (I : IsO B H po rw_ (num : Int) lik look Z) (hk : ∀ e ∈ rw_, e.1 < (num : Int)) :
    ∃ p1 p2, ∃ d1 d2 : List (Key × V), Z = [po, p1, p2] ∧ H po = some (.dK (ownF p1 p2 (num : Int) lik look)) ∧ H p1 = some (.dK d1) ∧ H p2 = some (.dK d2) ∧ d1.length = rw_.length ∧ d2.length = rw_.length ∧ p1 ≠ po ∧ p2 ≠ po ∧ p2 ≠ p1 ∧
      ∀ (p : Addr) (ys : List Str) (B' H' : Hp), Same B B' → B' p = some (.lst (ys.map V.str)) → H' po = some (.dK (ownF p1 p2 ((num : Int) + 1) lik look)) → H' p1 = some (.dK (putK d1 (Sum.inl (num : Int)) (.ref p))) → H' p2 = some (.dK (putK d2 (Sum.inl (num : Int)) (.int 0))) → IsO B' H' po (rw_ ++ [((num : Int), ys, 0)]) ((num : Int) + 1) lik look Z := by
  obtain ⟨⟨p1, p2, P, eZ, a1, a2, a3, a4⟩, nd⟩ := I
  have nd' := nd
  rw [eZ] at nd'
  simp only [List.nodup_cons, List.mem_cons, List.not_mem_nil, or_false, not_or, not_false_eq_true, List.nodup_nil, and_true] at nd'
  obtain ⟨⟨n1, n2⟩, n3⟩ := nd'
  refine ⟨p1, p2, _, _, eZ, a1, a2, a3, by rw [dI_len', List.length_map], by rw [dI_len', List.length_map], Ne.symm n1, Ne.symm n2, Ne.symm n3, fun p ys B' H' k hp h0 h1 h2 => ?_⟩
  refine ⟨⟨p1, p2, fun k => if k = (num : Int) then p else P k, eZ, h0, ?_, ?_, fun e he => ?_⟩, nd⟩
  · rw [h1, put_rows (f := V.ref) hk]
    exact (congrArg (fun l => some (HO.dK (dI V.ref l))) (map_lay P p hk)).symm
  · rw [h2, put_rows (f := V.int) (x := (0 : Int)) hk]
    exact (congrArg (fun l => some (HO.dK (dI V.int l))) map_gone).symm
  · rcases List.mem_append.mp he with he | he
    · have h1 := hk e he
      dsimp only
      rw [if_neg (by omega)]
      exact k _ _ (a4 e he)
    · obtain rfl := List.mem_singleton.mp he
      dsimp only
      rw [if_pos rfl]
      exact hp
theorem IsO.kind {B H : Hp} {po : Addr} {rw : List RowE} {num lik look : Int} {Z : List Addr} (I : IsO B H po rw num lik look Z) : ∀ q ∈ Z, ∃ d, H q = some (.dK d) := fun q hq => by
  obtain ⟨⟨p1, p2, P, eZ, a1, a2, a3, a4⟩, nd⟩ := I
  rw [eZ] at hq
  simp only [List.mem_cons, List.not_mem_nil, or_false] at hq
  rcases hq with h | h | h
  · rw [h]; exact ⟨_, a1⟩
  · rw [h]; exact ⟨_, a2⟩
  · rw [h]; exact ⟨_, a3⟩
theorem IsM.kind {CM CG : Addr} {B H : Hp} {x : Addr} {M : Core} {Z W : List Addr} (I : IsM CM CG B H x M Z W) : ∀ q ∈ W, ∃ dx fs, H q = some (.ins CM dx fs) := fun q hq => by
  rcases I.tr with ⟨_, _, e⟩ | ⟨_, t⟩
  · rw [e] at hq; cases hq
  · exact t.ins q hq
theorem wfR_lay {rw : List RowE} {n : Int} {ys : List Str} (h : WfR rw) (hk : ∀ e ∈ rw, e.1 < n) (hy : Row ys) : WfR (rw ++ [(n, ys, 0)]) := by
  refine ⟨?_, fun e he => ?_⟩
  · unfold keysR
    rw [List.map_append]
    refine List.pairwise_append.mpr ⟨h.up, List.pairwise_singleton _ _, fun a ha b hb => ?_⟩
    obtain ⟨e, he, rfl⟩ := List.mem_map.mp ha
    rw [List.mem_singleton.mp hb]
    exact hk e he
  · rcases List.mem_append.mp he with he | he
    · exact h.row e he
    · rw [List.mem_singleton.mp he]; exact ⟨hy, Nat.zero_le _⟩
/-- both have one row more -/
theorem Both.lay {CM CG l : Addr} {H0 B H B2 H2 : Hp} {x po : Addr} {M : Core} {Z W W' Zo : List Addr} {ys : List Str} {top win : V} (I : Both CM CG l H0 B H x po M Z W Zo) (hR : Row ys) (hy : ∀ z ∈ ys, Ky 80 z)
    (I2 : IsM CM CG B2 H2 x (paM (layM M ys) top win) Z W') (hm : ∀ q ∈ Z ++ W', B2 q = none ∧ H0 q = none ∧ q ≠ l) (Q2 : IsO B2 H2 po (layM M ys).rw ((M.num : Int) + 1) ((M.lik : Int) + (likT (hdR (layM M ys).rw) (forkW (layM M ys).rw) : Int)) ((M.look : Int) + (lookT (hdR (layM M ys).rw) (forkW (layM M ys).rw) : Int)) Zo)
    (ho : ∀ q ∈ Zo, B2 q = none ∧ H0 q = none ∧ q ≠ l) : Both CM CG l H0 B2 H2 x po (paM (layM M ys) top win) Z W' Zo := by
  refine ⟨I2, Q2, hm, ho, fun q hq z => ?_, wfR_lay I.wr I.lt hR, fun e he z hz => ?_, fun e he => ?_⟩
  · rcases List.mem_append.mp z with z | z
    · exact I.dj q hq (List.mem_append_left _ z)
    · obtain ⟨d, e1⟩ := Q2.kind q hq
      obtain ⟨dx, fs, e2⟩ := I2.kind q z
      rw [e1] at e2; cases e2
  · rcases List.mem_append.mp he with he | he
    · exact I.kk e he z hz
    · rw [List.mem_singleton.mp he] at hz; exact hy z hz
  · show e.1 < ((M.num + 1 : Nat) : Int)
    rcases List.mem_append.mp he with he | he
    · have := I.lt e he; omega
    · rw [List.mem_singleton.mp he]; show (M.num : Int) < _; omega
/-! a list comprehension that changes things on its way -/
section
variable {σ : L2.St} {H : Hp} {Q : VK} {g : TG} {tt : TT} {te : TE} {vs : List Nat} {J : It} {n : Nat} {Gd : Hp → Prop} {Y : Nat → V → Hp → Hp → Prop}
theorem lcm {a : Addr} {B0 H0 B H : Hp} {k : Nat} (S : G.St a B0 H0 k B H) (W : Wk J n Gd Y) (hn : n ≤ 1000000) (I : Addr → Nat → Hp → Hp → List V → Prop) (hG : ∀ D i B' H' acc, I D i B' H' acc → G.St a B0 H0 k B' H' → Gd H')
    (h0 : ∀ D, H D = none → I D 0 B (upd H D (.lst [])) [])
    (hs : ∀ (D : Addr) (i : Nat) x acc B1 H1 H1', i < n → H D = none → G.St a B0 H0 k B1 H1 → H1 D = some (.lst acc) → B1 D = none → Y i x H1 H1' → I D i B1 H1 acc → acc.length ≤ i → ∀ (Qk : VK) (Qn : Hp → Prop),
      (∀ v B2 H2, G.St a B0 H0 k B2 H2 → B2 D = none → H2 D = some (.lst acc) → I D (i + 1) B2 (upd H2 D (.lst (acc ++ [v]))) (acc ++ [v]) → Qk v H2) →
      (∀ B2 H2, G.St a B0 H0 k B2 H2 → B2 D = none → H2 D = some (.lst acc) → I D (i + 1) B2 H2 acc → Qn H2) → g x (wipe σ vs) H1' (LcT tt te vs σ Qk Qn))
    (q : ∀ p B' H' acc, G.St a B0 H0 k B' H' → H p = none → H' p = some (.lst acc) → B' p = none → H0 p = none → p ≠ a → I p n B' H' acc → Q (.ref p) H') : LcB g tt te vs σ Q J H := by
  intro D hD
  have hD0 : H0 D = none := S.free0 hD
  have hDa : D ≠ a := S.nea hD
  refine ⟨fun i m H' => m = n - i ∧ i ≤ n ∧ ∃ B1 acc, G.St a B0 H0 k B1 H' ∧ B1 D = none ∧ H' D = some (.lst acc) ∧ acc.length ≤ i ∧ I D i B1 H' acc,
    ⟨n, by simp, Nat.zero_le _, B, [], S.vol hD, S.free hD, upd_same, Nat.le_refl _, h0 D hD⟩, ?_⟩
  rintro i m H1 ⟨rfl, hi, B1, acc, S1, hb, hx, hl, hI⟩
  have g1 : Gd H1 := hG D i B1 H1 acc hI S1
  by_cases hlt : i < n
  · refine .inr ⟨W.go i H1 hlt g1, fun H2 => ∃ B2 acc', G.St a B0 H0 k B2 H2 ∧ B2 D = none ∧ H2 D = some (.lst acc') ∧ acc'.length ≤ i + 1 ∧ I D (i + 1) B2 H2 acc', fun H2 p => ⟨n - (i + 1), by omega, rfl, hlt, p⟩, fun x H1' y => ?_⟩
    refine hs D i x acc B1 H1 H1' hlt hD S1 hx hb (W.yld i H1 x H1' hlt g1 y) hI hl _ _ (fun v B2 H2 S2 hb2 hx2 r => ?_) (fun B2 H2 S2 hb2 hx2 r => ?_)
    · exact ⟨acc, hx2, szl'' (by omega), B2, acc ++ [v], S2.put hD0 hb2 hDa, hb2, upd_same, by rw [List.length_append]; exact Nat.succ_le_succ hl, r⟩
    · exact ⟨B2, acc, S2, hb2, hx2, Nat.le_succ_of_le hl, r⟩
  · have e : i = n := by omega
    subst e
    exact .inl ⟨W.stop H1 g1, q D B1 H1 acc S1 hD hx hb hD0 hDa hI⟩
end
theorem cut_v {vs : List V} (n : Nat) : cutV vs none (some (n : Int)) = vs.take n := by
  have h := cut_take (id : V → V) vs n
  rw [List.map_id, List.map_id] at h
  exact h
theorem fits_due {n : Nat} {rw : List RowE} (hk : ∀ e ∈ rw, ∀ z ∈ e.2.1, PyData.strOk z = true) (hl : (dueR rw).length ≤ 16000) : Fits (n + 2) (.list ((dueR rw).map encD)) :=
  fits_map (by omega) fun x hx => by
    have h1 := (List.mergeSort_perm (items rw) le3).subset hx
    obtain ⟨e, he, h2⟩ := List.mem_flatMap.mp h1
    obtain ⟨i, _, h3, _, _⟩ := itE_mem h2
    exact fits_tup (Nat.le_of_ble_eq_true rfl) (allc fits_int (allc fits_int (all1 (fits_str (hk e he _ (List.mem_of_getElem? h3))))))
end G

namespace G
open PySem PySem.Spec PyProof.Rows L2 TL RZ

/-! ### many takes of a merge and of what a law keeps of it -/
section
variable {M M1 M2 : Core}
theorem TkN.num : ∀ (k : Nat) {M1 : Core}, TkN k M M1 → M1.num = M.num
  | 0, M1, h => by have h : M1 = M := h; rw [h]
  | k + 1, M1, ⟨_, h1, h2⟩ => h2.num.trans (TkN.num k h1)
theorem TkN.keys : ∀ (k : Nat) {M1 : Core}, TkN k M M1 → M1.rw.map (fun e => (e.1, e.2.1)) = M.rw.map fun e => (e.1, e.2.1)
  | 0, M1, h => by have h : M1 = M := h; rw [h]
  | k + 1, M1, ⟨_, h1, h2⟩ => h2.keys.trans (TkN.keys k h1)
theorem TkR.wfc (h : TkR M M1) (W : WfM (coreOf M.rw)) : WfM (coreOf M1.rw) := by
  cases e : lstH (hdR M.rw) (keysR M.rw) with
  | none => rw [h.none e]; exact W
  | some t =>
    rw [h.some e]
    have := wf_step (M := coreOf M.rw) (t := t) (top := .non) (win := .non) (lik := 0) (look := 0) W (win_at e).1
    exact ⟨this.up, this.len, this.key, Nat.zero_le _, this.few⟩
theorem TkN.wfc (W : WfM (coreOf M.rw)) : ∀ (k : Nat) {M1 : Core}, TkN k M M1 → WfM (coreOf M1.rw)
  | 0, M1, h => by have h : M1 = M := h; rw [h]; exact W
  | k + 1, M1, ⟨_, h1, h2⟩ => h2.wfc (TkN.wfc W k h1)
theorem TkN.keep (hk : ∀ e ∈ M.rw, ∀ z ∈ e.2.1, PyData.strOk z = true) : ∀ (k : Nat) {M1 : Core}, TkN k M M1 → ∀ e ∈ M1.rw, ∀ z ∈ e.2.1, PyData.strOk z = true
  | 0, M1, h => by have h : M1 = M := h; rw [h]; exact hk
  | k + 1, M1, ⟨_, h1, h2⟩ => tk_keep h2 (TkN.keep hk k h1)
theorem TkN.len (k : Nat) (h : TkN k M M1) : M1.rw.length = M.rw.length := by
  have := congrArg List.length (TkN.keys k h)
  rwa [List.length_map, List.length_map] at this
theorem SamM.refl (M : Core) : SamM M M := ⟨rfl, rfl, rfl⟩
end
def spTaken : Sp := spMt (T := PlO) (fun B0 H Z vs x => Z = x.Z ∧ vs = [.ref x.po] ∧ IsO B0 H x.po x.rw x.num x.lik x.look x.Z ∧ WfM (coreOf x.rw) ∧ WfR x.rw ∧ ∀ e ∈ x.rw, ∀ z ∈ e.2.1, PyData.strOk z = true)
  (fun B' H' Z' x v => ∃ rw' lik' look', Z' = x.Z ∧ Dt B' v (encO (lstH (hdR x.rw) (keysR x.rw))) ∧ TkO x.rw x.lik x.look rw' lik' look' ∧ IsO B' H' x.po rw' x.num lik' look' x.Z)
def spStands (CM CG : Addr) : Sp := fun vs H Q _ => ∃ (B0 : Hp) (m po : Addr) (M : Core) (num : Int) (Z W Zo : List Addr), vs = [.ref m, .ref po] ∧ Same B0 H ∧ (∀ q ∈ Z ++ W, B0 q = none) ∧ (∀ q ∈ Zo, B0 q = none) ∧ IsM CM CG B0 H m M Z W ∧ IsO B0 H po M.rw num (M.lik : Int) (M.look : Int) Zo ∧ (∀ e ∈ M.rw, ∀ z ∈ e.2.1, PyData.strOk z = true) ∧
  ∀ H', Same H H' → Q (.bl true) H'
section
variable {CM CG l : Addr} {H0 B H B' H' : Hp} {x po : Addr} {M M1 M2 : Core} {Z W Zo : List Addr} {a : Addr} {B0 : Hp} {k n : Nat} {Q : VK} {E : XK}
theorem Oth.same (s : Same H H') : Oth a B H B H' := ⟨fun _ _ _ e => s _ _ e, fun _ _ => rfl⟩
theorem use_stands {sp : Sp} {H9 : Hp} (hsp : sp = spStands CM CG) (S : G.St l B0 H9 k B H) (I : Both CM CG l H0 B H x po M Z W Zo) (q : ∀ H', G.St l B0 H9 k B H' → Both CM CG l H0 B H' x po M Z W Zo → Oth l B H B H' → Q (.bl true) H') : sp [.ref x, .ref po] H Q E := by
  rw [hsp]
  exact ⟨B, x, po, M, _, Z, W, Zo, rfl, S.sub, fun q hq => (I.zm q hq).1, fun q hq => (I.zo q hq).1, I.m, I.o, I.ok, fun H21 s21 => q _ (S.pure s21) (I.pure s21) (Oth.same s21)⟩
/-- so many things more on both sides -/
theorem Both.tookN {B2 H2 : Hp} {j : Nat} (I : Both CM CG l H0 B H x po M Z W Zo) (I2 : IsM CM CG B2 H2 x M2 Z W) (T2 : TkN j M M2) (hj : j ≤ (dueR M.rw).length) (T1 : TkN j M M1)
    (Q2 : IsO B2 H2 po M1.rw (M.num : Int) (M1.lik : Int) (M1.look : Int) Zo) (zm : ∀ q ∈ Z ++ W, B2 q = none) (zo : ∀ q ∈ Zo, B2 q = none) : Both CM CG l H0 B2 H2 x po M2 Z W Zo := by
  have s := (SamM.refl M).many j T1 T2
  rw [s.rw, s.lik, s.look, ← TkN.num j T2] at Q2
  refine ⟨I2, Q2, fun q hq => ⟨zm q hq, (I.zm q hq).2⟩, fun q hq => ⟨zo q hq, (I.zo q hq).2⟩, I.dj, (TkN.dueOk I.wr j T2 hj).wf, fun e he z hz => ?_, fun e he => ?_⟩
  · obtain ⟨e', h1, _, h3⟩ := keys_mem (TkN.keys j T2) he
    rw [← h3] at hz
    exact I.kk e' h1 z hz
  · obtain ⟨e', h1, h2, _⟩ := keys_mem (TkN.keys j T2) he
    rw [← h2, TkN.num j T2]
    exact I.lt e' h1
theorem fits_dueT {n : Nat} {rw : List RowE} (j : Nat) (hk : ∀ e ∈ rw, ∀ z ∈ e.2.1, PyData.strOk z = true) (hl : (dueR rw).length ≤ 16000) : Fits (n + 2) (.list (((dueR rw).take j).map encD)) :=
  fits_map (by rw [List.length_take]; omega) fun x hx => by
    have h1 := (List.mergeSort_perm (items rw) le3).subset (List.mem_of_mem_take hx)
    obtain ⟨e, he, h2⟩ := List.mem_flatMap.mp h1
    obtain ⟨i, _, h3, _, _⟩ := itE_mem h2
    exact fits_tup (Nat.le_of_ble_eq_true rfl) (allc fits_int (allc fits_int (all1 (fits_str (hk e he _ (List.mem_of_getElem? h3))))))
theorem OldV.trans {V : List Addr} {B1 H1 B2 H2 : Hp} (a : OldV V B H B1 H1) (b : OldV V B1 H1 B2 H2) : OldV V B H B2 H2 :=
  ⟨fun q o hq e => b.st q o hq (a.st q o hq e), fun q hq e => by
    cases h : H q with
    | none => exact absurd h e
    | some o => rw [b.fr q hq (by rw [a.st q o hq h]; exact fun z => nomatch z), a.fr q hq e]⟩
theorem OldV.refl {V : List Addr} : OldV V B H B H := ⟨fun _ _ _ e => e, fun _ _ _ => rfl⟩
theorem OldV.same {V : List Addr} (s : Same H H') : OldV V B H B H' := ⟨fun _ _ _ e => s _ _ e, fun _ _ _ => rfl⟩
variable {σ : L2.St} {g : TG} {tt : TT} {te : TE} {vs : List Nat} {J : It} {Gd : Hp → Prop} {Y : Nat → V → Hp → Hp → Prop}
/-- [taken(own) for _ in range(n)] -/
theorem lc_taken {po : Addr} {num : Int} (S : G.St a B0 H0 k B H) (W : Wk J n Gd Y) (hG : ∀ H', Gd H') (hY : ∀ i x H H', Y i x H H' → H' = H) (hn : n ≤ (dueR M.rw).length)
    (hO : IsO B H po M.rw num (M.lik : Int) (M.look : Int) Zo) (zo : ∀ q ∈ Zo, B q = none ∧ H0 q = none ∧ q ≠ a) (hW : WfM (coreOf M.rw)) (hR : WfR M.rw) (hk : ∀ e ∈ M.rw, ∀ z ∈ e.2.1, PyData.strOk z = true)
    (step : ∀ (i : Nat) y H1 (Qk : VK) (Qn : Hp → Prop) (E : XK), (∃ H', Y i y H' H1) → (∀ E, spTaken [.ref po] H1 Qk E) → g y (wipe σ vs) H1 (LcT tt te vs σ Qk Qn))
    (q : ∀ p B' H' M', G.St a B0 H0 k B' H' → OldV Zo B H B' H' → Same B B' → TkN n M M' → IsO B' H' po M'.rw num (M'.lik : Int) (M'.look : Int) Zo → (∀ q ∈ Zo, B' q = none) → Dt B' (.ref p) (.list (((dueR M.rw).take n).map encD)) → Q (.ref p) H') :
    LcB g tt te vs σ Q J H := by
  have hlen : (dueR M.rw).length ≤ 16000 := (show WfM (coreOf M.rw) from hW).due_few
  refine lcm S W (by omega) (fun D i B' H' acc => D ∉ Zo ∧ ∃ M', TkN i M M' ∧ IsO B' H' po M'.rw num (M'.lik : Int) (M'.look : Int) Zo ∧ (∀ q ∈ Zo, B' q = none) ∧ Dts B' acc (((dueR M.rw).take i).map encD) ∧ Same B B' ∧ OldV Zo B H B' H') (fun D i B' H' acc _ _ => hG H') (fun D hD => ?_) (fun D i y acc B1 H1 H1' hi hD S1 hx hb hy hI hl Qk Qn qk qn => ?_) (fun p B' H' acc S' hp hx hb h0 ha hI => ?_)
  · have nz : ∀ z ∈ Zo, z ≠ D := fun z hz e => hO.some_ z hz (by rw [e]; exact hD)
    refine ⟨fun z => nz D z rfl, M, rfl, hO.mono (Same.refl _) fun z hz o e => (upd_ne (nz z hz)).trans e, fun z hz => (zo z hz).1, by rw [List.take_zero]; exact .nil, Same.refl _, OldV.same (Same.updN hD)⟩
  · obtain ⟨hDZ, M1, T1, O1, zb, D1, K1, V1⟩ := hI
    obtain rfl := hY _ _ _ _ hy
    have ok1 := TkN.dueOk hR i T1 (by omega)
    refine step i y H1' Qk Qn (fun _ _ _ => False) ⟨_, hy⟩ fun E => ?_
    refine S1.mt (x := ⟨po, M1.rw, num, (M1.lik : Int), (M1.look : Int), Zo⟩) Zo (fun z hz => ⟨zb z hz, (zo z hz).2⟩) ⟨rfl, rfl, O1, TkN.wfc hW i T1, ok1.wf, TkN.keep hk i T1⟩ fun w B2 H2 V2 S2 O2 K2 hV r => ?_
    obtain ⟨rw', lik', look', eV, D2, TO, O3⟩ := r
    dsimp only at eV D2 TO O3
    rw [eV] at hV
    obtain ⟨M2, T2, n2, rfl, rfl, rfl⟩ := tk_make TO
    have hx2 := O2.st D _ hDZ hx
    have hb2 : B2 D = none := by rw [O2.fr D hDZ (by rw [hx]; exact fun z => nomatch z)]; exact hb
    have nz : ∀ z ∈ Zo, z ≠ D := fun z hz e => hDZ (by rw [← e]; exact hz)
    refine qk w B2 H2 S2 hb2 hx2 ⟨hDZ, M2, ⟨M1, T1, T2⟩, O3.mono (Same.refl _) fun z hz o e => (upd_ne (nz z hz)).trans e, fun z hz => (hV z hz).1, ?_, fun z o e => K2 _ _ (K1 _ _ e), ?_⟩
    · obtain ⟨xd, hxd⟩ : ∃ xd, (dueR M.rw)[i]? = some xd := ⟨_, List.getElem?_eq_getElem (by omega)⟩
      rw [List.take_succ, hxd, List.map_append]
      rw [due_next ok1, hxd] at D2
      have D2 : Dt B2 w (encO (some (xd.2.1, xd.2.2.toNat, xd.1))) := D2
      rw [encO_due hxd] at D2
      exact (D1.mono K2).app (.cons D2 .nil)
    · have a1 := V1.trans O2
      exact ⟨fun z o hz e => (upd_ne fun t => by rw [t, hD] at e; cases e).trans (a1.st z o hz e), a1.fr⟩
  · obtain ⟨hDZ, M1, T1, O1, zb, D1, K1, V1⟩ := hI
    have S2 := S'.know hx h0 hb ha
    have K2 : Same B' (upd B' p (.lst acc)) := Same.updN hb
    have nz : ∀ z ∈ Zo, z ≠ p := fun z hz e => hDZ (by rw [← e]; exact hz)
    refine q p (upd B' p (.lst acc)) H' M1 S2 ⟨V1.st, fun z hz e => ?_⟩ (fun z o e => K2 _ _ (K1 _ _ e)) T1 (O1.mono K2 fun z _ o e => e) (fun z hz => (upd_ne (nz z hz)).trans (zb z hz)) (.lst upd_same (D1.mono K2))
    rw [upd_ne (fun t => e (by rw [t]; exact hp))]
    exact V1.fr z hz e
end
end G

namespace G
open PySem PySem.Spec PyProof.Rows L2 TL RZ

/-! ### a stretch of a list stored: o[a:c] = e -/
def SlsR (R : L2.St → Hp → Prop) (σ : L2.St) (v x : V) (l u : Option Int) (H : Hp) : Prop := ∃ (p b : Addr) (xs ys : List V) (a c : Nat), x = .ref p ∧ v = .ref b ∧ l = some (a : Int) ∧ u = some (c : Int) ∧ H p = some (.lst xs) ∧ H b = some (.lst ys) ∧ p ≠ b ∧ a ≤ c ∧ c ≤ xs.length ∧
  xs.length + ys.length ≤ sizeLine ∧ R σ (upd H p (.lst (xs.take a ++ ys ++ xs.drop c)))
def gSls (to : TE) (tl th : TO) : TG := fun v σ H R => to σ H fun x H1 => tl σ H1 fun l H2 => th σ H2 fun u H3 => SlsR R σ v x l u H3
theorem g_sls {to : TE} {tl th : TO} {v : V} {σ : L2.St} {H : Hp} {R : L2.St → Hp → Prop} (h : to σ H fun x H1 => tl σ H1 fun l H2 => th σ H2 fun u H3 => SlsR R σ v x l u H3) : gSls to tl th v σ H R := h
theorem sls_lst {R : L2.St → Hp → Prop} {σ : L2.St} {H : Hp} {p b : Addr} {xs ys : List V} {a c : Nat} (h1 : H p = some (.lst xs)) (h2 : H b = some (.lst ys)) (hne : p ≠ b) (hac : a ≤ c) (hc : c ≤ xs.length) (hz : xs.length + ys.length ≤ 1048576)
    (q : R σ (upd H p (.lst (xs.take a ++ ys ++ xs.drop c)))) : SlsR R σ (.ref b) (.ref p) (some (a : Int)) (some (c : Int)) H := ⟨p, b, xs, ys, a, c, rfl, rfl, rfl, rfl, h1, h2, hne, hac, hc, szl' hz, q⟩
section
variable {X : Cx} {o lo hi : Expr} {to : TE} {tl th : TO} {p2 pos : Pos}
theorem pg_sls (ho : PE X o to) (hl : PO X (some lo) tl) (hu : PO X (some hi) th) : PG X (.Subscript o (.Slice (some lo) (some hi) none p2) pos) (gSls to tl th) := by
  refine ⟨fun pins s σ H v u Q I r h => ?_⟩
  have ha : assign (.Subscript o (.Slice (some lo) (some hi) none p2) pos) X.env u = (do
      let ov ← holding [u] (eval o X.env)
      let iv ← holding [u, ov] (eval (.Slice (some lo) (some hi) none p2) X.env)
      standAt pos
      holding [u, ov, iv] (setItem ov iv u)
      release [iv, u, ov] []) := by rfl
  rw [ha]
  refine wpAny_bind (wpAny_holding (thn (ho.run pins s σ H _ I h) fun ov s1 ⟨x, H1, I1, r1, q1⟩ => ?_))
  refine wpAny_bind (wpAny_holding ?_)
  refine wpAny_Slice (thn (hl.run pins s1 σ H1 _ I1 q1) fun vl s2 ⟨l, H2, I2, pl, q2⟩ => thn (hu.run pins s2 σ H2 _ I2 q2) fun vu s3 ⟨u3, H3, I3, pu, q3⟩ => ?_)
  rw [evalPart_none]
  refine wpAny_pure ?_
  have I4 : Inv X pins σ H3 { s3 with heap := s3.heap.push { cls := .type "slice", data := .fields #[vl, vu, .none] } } := I3.kept (t' := s3.toks) fun b ob q => Heap.get?_push_of_some _ q
  obtain ⟨p, b, xs, ys, a, c, rfl, rfl, rfl, rfl, h1, h2, hne, hac, hc, hz, q⟩ := q3
  obtain rfl : ov = Value.ref p := r1
  obtain rfl : u = Value.ref b := r
  cases pl with
  | int _ ta =>
    cases pu with
    | int _ tc =>
      refine wpAny_bind (wpAny_standAt (wpAny_bind (wpAny_holding ?_)))
      refine set_slice I4 h1 h2 hne (Heap.IsSliceOf.new ..) ⟨ta, rfl⟩ ⟨tc, rfl⟩ (by omega) (by omega) (by omega) hz fun s' I' => ?_
      simp only [Int.toNat_natCast] at I'
      exact wpAny_release ⟨σ, _, I', q⟩
end

/-! ### t[::-1], t a tuple -/
theorem adjust_back (n : Nat) : Builtin.Slice.sliceAdjust none none (-1) (n : Int) = ((n : Int) - 1, -1) := rfl
theorem places_back (n : Nat) : Builtin.Slice.slicePlaces ((n : Int) - 1) (-1) (-1) = n := by
  unfold Builtin.Slice.slicePlaces
  rw [if_neg (show ¬ ((-1 : Int) > 0) by decide)]
  by_cases h : (n : Int) - 1 > -1
  · rw [if_pos h, show (-(-1) : Int) = 1 from rfl, Int.ediv_one]; omega
  · rw [if_neg h]; omega
theorem pick_back (xs : Array Value) : ((List.range xs.size).filterMap fun (k : Nat) => xs[(((xs.size : Int) - 1) + (k : Int) * (-1)).toNat]?).toArray = xs.toList.reverse.toArray := by
  have e : ∀ n, n ≤ xs.size → ((List.range n).filterMap fun (k : Nat) => xs[(((xs.size : Int) - 1) + (k : Int) * (-1)).toNat]?) = xs.toList.reverse.take n := by
    intro n
    induction n with
    | zero => intro _; rfl
    | succ n ih =>
      intro h
      have hx : xs[(((xs.size : Int) - 1) + (n : Int) * (-1)).toNat]? = some (xs[xs.size - 1 - n]'(by omega)) := by
        rw [show (((xs.size : Int) - 1) + (n : Int) * (-1)).toNat = xs.size - 1 - n by omega]
        exact Array.getElem?_eq_getElem (by omega)
      have hr : xs.toList.reverse[n]? = some (xs[xs.size - 1 - n]'(by omega)) := by
        rw [List.getElem?_reverse (by rw [Array.length_toList]; omega), Array.length_toList, Array.getElem?_toList]
        exact Array.getElem?_eq_getElem (by omega)
      rw [List.range_succ, List.filterMap_append, ih (by omega), List.take_succ, hr]
      simp only [List.filterMap_cons, List.filterMap_nil, hx]
      rfl
  rw [e _ (Nat.le_refl _), List.take_of_length_le (by rw [List.length_reverse, Array.length_toList]; exact Nat.le_refl _)]
section
variable {prog : Program} {w : World} {A : Around} {E : Value → Shared → Prop} {s : Shared}
theorem sliceApplied_back {sl : Addr} {vl vu vs : Value} {n : Nat} {Q : Int × Int × Nat → Shared → Prop} (hs : s.heap.IsSliceOf sl vl vu vs) (pl : IsPart vl none) (pu : IsPart vu none) (ps : IsPart vs (some (-1)))
    (h : Q ((n : Int) - 1, -1, n) s) : wpAny (model prog w) A (Builtin.Slice.sliceApplied (.ref sl) (pure (n : Int))) Q E s := by
  obtain ⟨os, hos, hcs, hds⟩ := id hs
  unfold Builtin.Slice.sliceApplied Builtin.Slice.sliceFields
  refine wpAny_bind (wpAny_bind (wpAny_field hos hds (x := vl) rfl (wpAny_bind (wpAny_field hos hds (x := vu) rfl (wpAny_bind (wpAny_field hos hds (x := vs) rfl (wpAny_pure ?_)))))))
  refine wpAny_bind (HT.slicePart_ ps ?_)
  show wpAny _ _ (if ((-1 : Int) == 0) = true then _ else _) _ _ s
  rw [if_neg (by decide)]
  refine wpAny_bind (HT.slicePart_ pl (wpAny_bind (HT.slicePart_ pu (wpAny_bind (wpAny_pure ?_)))))
  show wpAny _ _ (match Builtin.Slice.sliceAdjust none none (-1) (n : Int) with | (lo, hi) => pure (lo, (-1 : Int), Builtin.Slice.slicePlaces lo hi (-1))) _ _ s
  rw [adjust_back n]
  show wpAny _ _ (pure ((n : Int) - 1, (-1 : Int), Builtin.Slice.slicePlaces ((n : Int) - 1) (-1) (-1))) _ _ s
  rw [places_back]
  exact wpAny_pure h
theorem getItem_tuple_back {t sl : Addr} {items : Array Value} {vl vu vs : Value} {Q : Value → Shared → Prop} (ht : IsTup s.heap t items) (hs : s.heap.IsSliceOf sl vl vu vs) (pl : IsPart vl none) (pu : IsPart vu none) (ps : IsPart vs (some (-1)))
    (h : Q (.ref s.heap.objs.size) { s with heap := s.heap.push { cls := .type "tuple", data := .seq items.toList.reverse.toArray } }) (hsz : items.size ≤ sizeLine) : wpAny (model prog w) A (getItem (.ref t) (.ref sl)) Q E s := by
  have htake : sizeOk (.seq items.toList.reverse.toArray) := by
    show items.toList.reverse.toArray.size ≤ sizeLine
    rw [List.size_toArray, List.length_reverse, Array.length_toList]
    exact hsz
  obtain ⟨os, hos, hcs, hds⟩ := id hs
  have hTs : s.TypeIs (.ref sl) "slice" := ⟨os, hos, hcs⟩
  unfold getItem
  try with_reducible refine wpAny_holding ?_
  first | refine wpAny_bind (wpAny_pure ?_) | skip
  refine wpAny_bind (wpAny_sequenceKey ht.typeIs (by decide) ?_)
  refine wpAny_bind (wpAny_callSpecial?_slot (name := Str.ofString "__getitem__") ht.typeIs PyProof.Rows.slot_tuple_getitem
    (wpAny_call_entry PyProof.Rows.slot_tuple_getitem ht.typeIs entry_tuple_getitem ?_ (args_tuple_getitem _ _)))
  show wpAny _ _ (Builtin.Tuple.tupleItemsOf (.ref t) >>= _) _ _ s
  refine wpAny_bind (tupleItemsOf_ ht ?_)
  refine wpAny_bind (wpAny_typeOf hTs ?_)
  rw [if_pos (by decide)]
  refine wpAny_bind (sliceApplied_back hs pl pu ps ?_)
  have hno : ¬ ((((items.size : Int) - 1) == 0 && (-1 : Int) == 1 && items.size == items.size) = true) := by
    intro q
    rw [Bool.and_eq_true, Bool.and_eq_true] at q
    exact absurd q.1.2 (by decide)
  show wpAny _ _ (if (((items.size : Int) - 1) == 0 && (-1 : Int) == 1 && items.size == items.size) = true then _ else _) _ _ s
  rw [if_neg hno, pick_back]
  first
    | exact wpAny_bind (m := Builtin.Tuple.tupleExact _) (wpAny_newObj_type (wpAny_pure ⟨_, rfl, wpAny_pure h⟩) htake)
    | exact wpAny_bind (m := Builtin.Tuple.tupleExact _) (wpAny_newObj_type (wpAny_bind (wpAny_pure (wpAny_pure ⟨_, rfl, wpAny_pure h⟩))) htake)
    | exact wpAny_bind (wpAny_bind (m := Builtin.Tuple.tupleExact _) (wpAny_newObj_type (wpAny_pure (wpAny_pure ⟨_, rfl, wpAny_pure h⟩)) htake))
    | exact wpAny_bind (wpAny_bind (m := Builtin.Tuple.tupleExact _) (wpAny_newObj_type (wpAny_pure ⟨_, rfl, wpAny_pure h⟩) htake))
end
def RevT (K : PySem.W.Frag) (Q : VK) (x : V) (H : Hp) : Prop := ∃ a xs, x = .ref a ∧ SqT K H a xs ∧ AtNew Q (.tup xs.reverse) H
def tRevT (K : PySem.W.Frag) (te : TE) : TE := fun σ H Q => te σ H (RevT K Q)
theorem g_revT {K : PySem.W.Frag} {te : TE} {σ : L2.St} {H : Hp} {Q : VK} (h : te σ H (RevT K Q)) : tRevT K te σ H Q := h
theorem rev_tup {K : PySem.W.Frag} {Q : VK} {H : Hp} {a : Addr} {xs : List V} (h1 : H a = some (.tup xs)) (h : AtNew Q (.tup xs.reverse) H) : RevT K Q (.ref a) H := ⟨a, xs, rfl, .inl (.inl h1), h⟩
theorem pe_revT {X : Cx} {e : Expr} {te : TE} {k : Nat} {p1 p2 p3 pos : Pos} (he : PE X e te) : PE X (.Subscript e (.Slice none none (some (.UnaryOp .USub (.Constant (.int 1) k p1) p2)) p3) pos) (tRevT X.K te) := by
  refine ⟨fun pins s σ H Q I h => ?_⟩
  refine Subscript_ (thn (he.run pins s σ H _ I h) fun v s1 ⟨x, H1, I1, r1, q1⟩ => ?_)
  obtain ⟨a, xs, ex, hx, q⟩ := q1
  subst ex
  cases r1
  have hst : PO X (some (.UnaryOp .USub (.Constant (.int 1) k p1) p2)) (tPart (tUn (rU fun i => .int (-i)) (tC (.int 1)))) := po_some (pe_un un_neg pe_int)
  refine wpAny_Slice (thn (po_none.run pins s1 σ H1 (fun o H2 => o = none ∧ H2 = H1) I1 ⟨rfl, rfl⟩) fun vl s2 ⟨l, H2, I2, pl, el, e2⟩ => ?_)
  subst el e2
  refine thn (po_none.run pins s2 σ H2 (fun o H3 => o = none ∧ H3 = H2) I2 ⟨rfl, rfl⟩) fun vu s3 ⟨u, H3, I3, pu, eu, e3⟩ => ?_
  subst eu e3
  refine thn (hst.run pins s3 σ H3 (fun o H4 => o = some (-1) ∧ H4 = H3) I3 ⟨1, rfl, -1, rfl, rfl, rfl⟩) fun vs s4 ⟨o, H4, I4, ps, eo, e4⟩ => ?_
  subst eo e4
  have I5 : Inv X pins σ H4 { s4 with heap := s4.heap.push { cls := .type "slice", data := .fields #[vl, vu, vs] } } := I4.kept (t' := s4.toks) fun b ob q => Heap.get?_push_of_some _ q
  obtain ⟨its, r, ht, hz⟩ := I5.tuple hx
  have hlen := r.length
  show wpAny (model X.prog X.w) X.A (subscriptTail e (.Slice none none (some (.UnaryOp .USub (.Constant (.int 1) k p1) p2)) p3) (.ref a) (.ref s4.heap.objs.size)) (EP X pins σ Q) X.xe { s4 with heap := s4.heap.push { cls := .type "slice", data := .fields #[vl, vu, vs] } }
  refine tail_any (ops := [.ref a, .ref s4.heap.objs.size]) ht.typeIs (PyProof.Rows.slot_tuple_getitem.lookup) ?_ (by with_unfolding_all rfl)
  refine getItem_tuple_back ht (Heap.IsSliceOf.new _ vl vu vs) pl pu ps ?_ (by rw [List.size_toArray]; omega)
  refine ⟨.ref _, _, I5.laid (t' := s4.toks) (o := .tup xs.reverse) (fun b ob q => Heap.get?_push_of_some _ q) (Nat.le_refl _) ?_, rfl, q _ (I5.hok.fresh (Nat.le_refl _))⟩
  exact ⟨by rw [List.length_reverse]; exact hz, its.reverse, r.reverse, IsTup.new _ _⟩
theorem pe_revTK {X : Cx} {e : Expr} {te : TE} {K : PySem.W.Frag} {k : Nat} {p1 p2 p3 pos : Pos} (he : PE X e te) (hK : X.K = K := by rfl) : PE X (.Subscript e (.Slice none none (some (.UnaryOp .USub (.Constant (.int 1) k p1) p2)) p3) pos) (tRevT K te) := by subst hK; exact pe_revT he

/-! ### xs.extend(t), t a tuple -/
theorem ext_meets (l b : Addr) (its its2 : Array Value) (n : Nat) (h1 : its.size ≤ sizeLine) (h2 : its.size + its2.size ≤ sizeLine) :
    Meets (Builtin.«list.extend» ⟨[.ref l, .ref b], []⟩) (fun _ R s => s.heap.get? l = some { cls := .type "list", dict := none, data := .seq its n, slots := #[] } ∧ IsTup s.heap b its2 ∧ R (.ok (.ret Value.none)) { s with heap := s.heap.update l (Obj.mapSeq fun x => x ++ its2), toks := s.toks }) :=
  .of_wp fun prog w A R s h => by
    obtain ⟨hl, ht, h⟩ := h
    obtain ⟨o, ho, hc, m, hd⟩ := id ht
    show wpAny _ _ (Builtin.List.listExtendWith (.ref l) (.ref b) .none) _ _ s
    unfold Builtin.List.listExtendWith
    refine wpAny_bind (wpAny_typeOf (T := "tuple") ⟨o, ho, hc⟩ ?_)
    rw [if_pos (by rw [show ((Value.type "tuple") == Value.type "tuple") = true from by decide, Bool.or_true])]
    refine wpAny_bind (listItems_at ho hd ?_)
    refine wpAny_bind (listItems_at hl rfl ?_)
    have hno : (!its.isEmpty && Builtin.List.listTooLong (its.size + its2.size)) = false := by
      rw [notLongL h2, Bool.and_false]
    rw [hno]
    simp only [Bool.false_eq_true, if_false]
    refine wpAny_bind (listUpdate_at hl rfl ?_ h1 (by rw [Array.size_append]; omega))
    exact wpAny_pure ⟨_, rfl, h⟩
def rExtendT : V → List V → Hp → VK → Prop := fun x vs H Q => ∃ l b xs zs, x = .ref l ∧ vs = [.ref b] ∧ H l = some (.lst xs) ∧ H b = some (.tup zs) ∧ xs.length + zs.length ≤ sizeLine ∧ Q .non (upd H l (.lst (xs ++ zs)))
theorem mt_extendT {X : Cx} : MtM X "list.extend" rExtendT := by
  intro pins s σ H x vs v us Q I rx rv h
  obtain ⟨l, b, xs, zs, rfl, rfl, hH, hB, hz, q⟩ := h
  cases rx
  obtain ⟨u, rfl, ru⟩ := rv.one
  cases ru
  obtain ⟨z, its, n, r, hl, e⟩ := I.lstM hH
  obtain ⟨its2, r2, ht, z2⟩ := I.tuple (.inl (.inl hB))
  have hl2 := r2.length
  refine call_meets PySem.F.slot_list_extend ⟨_, e, rfl⟩ PySem.F.entry_list_extend (PySem.F.args_list_extend_2 _ _) (ext_meets l b its.toArray its2.toArray n (by rw [List.size_toArray]; omega) (by rw [List.size_toArray, List.size_toArray]; omega)) ⟨e, ht, ?_⟩
  refine ⟨.non, _, I.lset (its' := its ++ its2) hH e (by simp) (r.append r2) ?_, rfl, q⟩
  rw [List.length_append]
  omega
theorem extT {H : Hp} {Q : VK} {l b : Addr} {xs zs : List V} (h1 : H l = some (.lst xs)) (h2 : H b = some (.tup zs)) (h3 : xs.length + zs.length ≤ 1048576) (q : Q .non (upd H l (.lst (xs ++ zs)))) : rExtendT (.ref l) [.ref b] H Q := ⟨l, b, xs, zs, rfl, rfl, h1, h2, szl' h3, q⟩
theorem extL {H : Hp} {Q : VK} {l b : Addr} {xs zs : List V} (h1 : H l = some (.lst xs)) (h2 : H b = some (.lst zs)) (h3 : xs.length + zs.length ≤ 1048576) (q : Q .non (upd H l (.lst (xs ++ zs)))) : rExtend (.ref l) [.ref b] H Q := ⟨l, b, xs, zs, rfl, rfl, h1, h2, szl' h3, q⟩

/-! ### 10 ** 9 -/
theorem pe_lit {X : Cx} {e : Expr} {te : TE} {v : V} (he : PE X e te) (hq : ∀ σ H (Q : VK), Q v H → te σ H Q) : PE X e (tC v) := ⟨fun pins s σ H Q I h => he.run pins s σ H Q I (hq σ H Q h)⟩
theorem p9_ok {σ : L2.St} {H : Hp} {Q : VK} (h : Q (.int 1000000000) H) : tOp gPow (tC (.int 10)) (tC (.int 9)) σ H Q := by
  refine g_op (g_c (g_c (pow_int ⟨by decide, by decide, by decide⟩ ?_)))
  rw [show (10 : Int) ^ Int.toNat 9 = 1000000000 from by decide]
  exact h
theorem pe_p9 {X : Cx} {e1 e2 : Expr} {pos : Pos} (h1 : PE X e1 (tC (.int 10))) (h2 : PE X e2 (tC (.int 9))) : PE X (.BinOp e1 .Pow e2 pos) (tC (.int 1000000000)) := pe_lit (pe_op oPow h1 h2) fun _ _ _ h => p9_ok h

theorem ne_volnil {K : PySem.W.Frag} {B H : Hp} {Q : VK} {p q : Addr} {ws : List V} {ds : List PyData} (s : Same B H) (hb : B p = none) (hp : H p = some (.lst ws)) (D : Dts B ws ds) (hq : Dt B (.ref q) (.list [])) (f : Fits 60 (.list ds)) (k : Q (.bl (!decide (ds = []))) H) : gNe K (.ref p) (.ref q) H Q :=
  ne_nil (B := upd B p (.lst ws)) (fun r o e => by
    by_cases z : r = p
    · rw [z, upd_same] at e; rw [z, hp]; exact e
    · rw [upd_ne z] at e; exact s _ _ e) (.lst upd_same (D.mono (Same.updN hb))) (hq.mono (Same.updN hb)) f k
theorem pop_lst {H : Hp} {Q : VK} {l : Addr} {ws : List V} {y : V} (h : H l = some (.lst (ws ++ [y]))) (q : Q y (upd H l (.lst ws))) : rPop (.ref l) [] H Q :=
  ⟨l, ws ++ [y], y, rfl, rfl, h, by simp, by rw [List.dropLast_concat]; exact q⟩
end G

namespace G
open PySem PySem.Spec PyProof.Rows L2 TL RZ

/-! ### trees of merges -/
inductive PT
  | lf (n : Int)
  | nd (l : List PT)
mutual
def PT.leaves : PT → List Int
  | .lf n => [n]
  | .nd l => PT.leavesL l
def PT.leavesL : List PT → List Int
  | [] => []
  | t :: l => t.leaves ++ PT.leavesL l
end
mutual
def encPT : PT → PyData
  | .lf n => .int n
  | .nd l => .tuple (encPL l)
def encPL : List PT → List PyData
  | [] => []
  | t :: l => encPT t :: encPL l
end
mutual
def PT.cost (g : Int → Int) : PT → Int
  | .lf _ => 0
  | .nd l => ((PT.leavesL l).map g).sum + PT.costL g l
def PT.costL (g : Int → Int) : List PT → Int
  | [] => 0
  | t :: l => t.cost g + PT.costL g l
end
mutual
def PT.okW (w : Nat) : PT → Prop
  | .lf _ => True
  | .nd l => 2 ≤ l.length ∧ l.length ≤ w ∧ PT.okL w l
def PT.okL (w : Nat) : List PT → Prop
  | [] => True
  | t :: l => t.okW w ∧ PT.okL w l
end
mutual
def PT.nodes : PT → Nat
  | .lf _ => 1
  | .nd l => 1 + PT.nodesL l
def PT.nodesL : List PT → Nat
  | [] => 0
  | t :: l => t.nodes + PT.nodesL l
end
theorem PT.ind {P : PT → Prop} (h1 : ∀ n, P (.lf n)) (h2 : ∀ l, (∀ t ∈ l, P t) → P (.nd l)) : ∀ t, P t := by
  intro t
  refine PT.rec (motive_1 := P) (motive_2 := fun l => ∀ t ∈ l, P t) h1 (fun l h => h2 l h) (fun _ h => nomatch h) (fun a l ha hl x hx => ?_) t
  rcases List.mem_cons.mp hx with rfl | hx
  · exact ha
  · exact hl x hx
theorem encPL_map : ∀ l : List PT, encPL l = l.map encPT
  | [] => by simp [encPL]
  | t :: l => by rw [encPL, encPL_map l]; rfl
theorem encPT_nd (l : List PT) : encPT (.nd l) = .tuple (l.map encPT) := by rw [encPT, encPL_map]
theorem encPT_lf (n : Int) : encPT (.lf n) = .int n := by rw [encPT]
theorem leavesL_cons (t : PT) (l : List PT) : PT.leavesL (t :: l) = t.leaves ++ PT.leavesL l := by rw [PT.leavesL]
theorem leavesL_nil : PT.leavesL [] = [] := by rw [PT.leavesL]
theorem leaves_nd (l : List PT) : (PT.nd l).leaves = PT.leavesL l := by rw [PT.leaves]
theorem leaves_lf (n : Int) : (PT.lf n).leaves = [n] := by rw [PT.leaves]
theorem leavesL_app : ∀ a b : List PT, PT.leavesL (a ++ b) = PT.leavesL a ++ PT.leavesL b
  | [], b => by rw [leavesL_nil]; rfl
  | t :: a, b => by rw [List.cons_append, leavesL_cons, leavesL_cons, leavesL_app a b, List.append_assoc]
theorem costL_cons (g : Int → Int) (t : PT) (l : List PT) : PT.costL g (t :: l) = t.cost g + PT.costL g l := by rw [PT.costL]
theorem costL_nil (g : Int → Int) : PT.costL g [] = 0 := by rw [PT.costL]
theorem cost_nd (g : Int → Int) (l : List PT) : (PT.nd l).cost g = ((PT.leavesL l).map g).sum + PT.costL g l := by rw [PT.cost]
theorem cost_lf (g : Int → Int) (n : Int) : (PT.lf n).cost g = 0 := by rw [PT.cost]
theorem costL_sum (g : Int → Int) : ∀ l : List PT, PT.costL g l = (l.map (PT.cost g)).sum
  | [] => by rw [costL_nil]; rfl
  | t :: l => by rw [costL_cons, costL_sum g l, List.map_cons, List.sum_cons]
theorem costL_app (g : Int → Int) (a b : List PT) : PT.costL g (a ++ b) = PT.costL g a + PT.costL g b := by
  rw [costL_sum, costL_sum, costL_sum, List.map_append, List.sum_append_int]
theorem okL_iff {w : Nat} : ∀ {l : List PT}, PT.okL w l ↔ ∀ t ∈ l, t.okW w
  | [] => by simp [PT.okL]
  | t :: l => by rw [PT.okL, okL_iff (l := l)]; simp
theorem okW_nd {w : Nat} {l : List PT} : (PT.nd l).okW w ↔ 2 ≤ l.length ∧ l.length ≤ w ∧ ∀ t ∈ l, t.okW w := by rw [PT.okW, okL_iff]
theorem okW_lf {w : Nat} {n : Int} : (PT.lf n).okW w := by rw [PT.okW]; trivial
theorem okW_le {w w' : Nat} (h : w ≤ w') : ∀ t : PT, t.okW w → t.okW w' := PT.ind (fun _ _ => okW_lf) fun l ih ho => by
  obtain ⟨h1, h2, h3⟩ := okW_nd.mp ho
  exact okW_nd.mpr ⟨h1, by omega, fun t ht => ih t ht (h3 t ht)⟩
theorem nodesL_cons (t : PT) (l : List PT) : PT.nodesL (t :: l) = t.nodes + PT.nodesL l := by rw [PT.nodesL]
theorem nodesL_nil : PT.nodesL [] = 0 := by rw [PT.nodesL]
theorem nodes_nd (l : List PT) : (PT.nd l).nodes = 1 + PT.nodesL l := by rw [PT.nodes]
theorem nodes_lf (n : Int) : (PT.lf n).nodes = 1 := by rw [PT.nodes]
theorem nodesL_app : ∀ a b : List PT, PT.nodesL (a ++ b) = PT.nodesL a + PT.nodesL b
  | [], b => by rw [nodesL_nil, Nat.zero_add]; rfl
  | t :: a, b => by rw [List.cons_append, nodesL_cons, nodesL_cons, nodesL_app a b, Nat.add_assoc]
theorem nodesL_perm {a b : List PT} (h : a.Perm b) : PT.nodesL a = PT.nodesL b := by
  induction h with
  | nil => rfl
  | cons x _ ih => rw [nodesL_cons, nodesL_cons, ih]
  | swap x y l => rw [nodesL_cons, nodesL_cons, nodesL_cons, nodesL_cons]; omega
  | trans _ _ h1 h2 => exact h1.trans h2
theorem leavesL_perm {a b : List PT} (h : a.Perm b) : (PT.leavesL a).Perm (PT.leavesL b) := by
  induction h with
  | nil => exact .refl _
  | cons x _ ih => rw [leavesL_cons, leavesL_cons]; exact ih.append_left _
  | swap x y l =>
    rw [leavesL_cons, leavesL_cons, leavesL_cons, leavesL_cons, ← List.append_assoc, ← List.append_assoc]
    exact List.perm_append_comm.append_right _
  | trans _ _ h1 h2 => exact h1.trans h2
theorem leaves_pos {w : Nat} : ∀ t : PT, t.okW w → 1 ≤ t.leaves.length := PT.ind (fun _ _ => by rw [leaves_lf]; exact Nat.le_refl _) fun l ih ho => by
  obtain ⟨h1, h2, h3⟩ := okW_nd.mp ho
  cases l with
  | nil => exact absurd h1 (by decide)
  | cons t l =>
    rw [leaves_nd, leavesL_cons, List.length_append]
    have := ih t List.mem_cons_self (h3 t List.mem_cons_self)
    omega
theorem leavesL_len {w : Nat} : ∀ {l : List PT}, (∀ t ∈ l, t.okW w) → l.length ≤ (PT.leavesL l).length
  | [], _ => Nat.zero_le _
  | t :: l, h => by
    rw [leavesL_cons, List.length_append, List.length_cons]
    have h1 := leaves_pos t (h t List.mem_cons_self)
    have h2 := leavesL_len (l := l) fun x hx => h x (List.mem_cons_of_mem _ hx)
    omega
theorem leavesL_mem : ∀ {l : List PT} {t : PT}, t ∈ l → t.leaves.length ≤ (PT.leavesL l).length ∧ ∀ n ∈ t.leaves, n ∈ PT.leavesL l
  | a :: l, t, h => by
    rw [leavesL_cons, List.length_append]
    rcases List.mem_cons.mp h with rfl | h
    · exact ⟨by omega, fun n hn => List.mem_append_left _ hn⟩
    · obtain ⟨h1, h2⟩ := leavesL_mem (l := l) h
      exact ⟨by omega, fun n hn => List.mem_append_right _ (h2 n hn)⟩
/-- a part has at least one leaf less than all -/
theorem leavesL_part {w : Nat} {l : List PT} {t : PT} (h : ∀ x ∈ l, x.okW w) (h2 : 2 ≤ l.length) (ht : t ∈ l) : t.leaves.length + 1 ≤ (PT.leavesL l).length := by
  obtain ⟨a, b, rfl⟩ := List.append_of_mem ht
  rw [leavesL_app, leavesL_cons, List.length_append, List.length_append]
  have h1 := leavesL_len (l := a) fun x hx => h x (List.mem_append_left _ hx)
  have h3 := leavesL_len (l := b) fun x hx => h x (List.mem_append_right _ (List.mem_cons_of_mem _ hx))
  rw [List.length_append, List.length_cons] at h2
  omega
theorem nodesL_mem : ∀ {l : List PT} {t : PT}, t ∈ l → t.nodes ≤ PT.nodesL l
  | a :: l, t, h => by
    rw [nodesL_cons]
    rcases List.mem_cons.mp h with rfl | h
    · omega
    · have := nodesL_mem (l := l) h; omega
theorem nodes_pos : ∀ t : PT, 1 ≤ t.nodes
  | .lf _ => by rw [nodes_lf]; exact Nat.le_refl _
  | .nd l => by rw [nodes_nd]; omega
theorem nodesL_len : ∀ l : List PT, l.length ≤ PT.nodesL l
  | [] => Nat.zero_le _
  | t :: l => by
    rw [nodesL_cons, List.length_cons]
    have := nodes_pos t
    have := nodesL_len l
    omega
theorem fits_pt {w : Nat} (hw : w ≤ 1000) : ∀ t : PT, t.okW w → Fits t.leaves.length (encPT t) := PT.ind (fun n _ => by rw [encPT_lf, leaves_lf]; exact fits_int) fun l ih ho => by
  obtain ⟨h1, h2, h3⟩ := okW_nd.mp ho
  rw [encPT_nd, leaves_nd]
  have hl := leavesL_len h3
  obtain ⟨m, hm⟩ : ∃ m, (PT.leavesL l).length = m + 1 := ⟨(PT.leavesL l).length - 1, by omega⟩
  rw [hm]
  refine fits_tup (by rw [List.length_map]; omega) fun d hd => ?_
  obtain ⟨t, ht, rfl⟩ := List.mem_map.mp hd
  exact (ih t ht (h3 t ht)).le (by have := leavesL_part h3 h1 ht; omega)
theorem weight_pt : ∀ t : PT, (∀ n ∈ t.leaves, -1000000000000 < n ∧ n < 1000000000000) → ∀ w, t.okW w → (encPT t).weight + 2 ≤ 42 * t.leaves.length := PT.ind (fun n h w _ => by
    rw [encPT_lf, leaves_lf]
    have h1 := h n (by rw [leaves_lf]; exact List.mem_cons_self)
    have := (sw_int' h1.1 h1.2).1
    show _ ≤ 42 * 1
    omega) fun l ih h w ho => by
  obtain ⟨h1, h2, h3⟩ := okW_nd.mp ho
  rw [encPT_nd, leaves_nd, PyData.weight]
  rw [leaves_nd] at h
  have key : ∀ k : List PT, (∀ t ∈ k, t ∈ l) → PyData.weightAll (k.map encPT) + k.length ≤ 42 * (PT.leavesL k).length := by
    intro k
    induction k with
    | nil => intro _; rw [leavesL_nil]; exact Nat.le_refl _
    | cons t k ihk =>
      intro hk
      have ht := hk t List.mem_cons_self
      have a := ih t ht (fun n hn => h n ((leavesL_mem ht).2 n hn)) w (h3 t ht)
      have b := ihk fun x hx => hk x (List.mem_cons_of_mem _ hx)
      rw [List.map_cons, PyData.weightAll, leavesL_cons, List.length_append, List.length_cons]
      omega
  have := key l fun _ h => h
  omega
theorem sw_pt : ∀ t : PT, (∀ n ∈ t.leaves, -1000000000000 < n ∧ n < 1000000000000) → ∀ w, t.okW w → ∃ k, Sw k (encPT t) := PT.ind (fun n h w _ => by
    rw [encPT_lf]
    have h1 := h n (by rw [leaves_lf]; exact List.mem_cons_self)
    exact ⟨40, sw_int' h1.1 h1.2⟩) fun l ih h w ho => by
  obtain ⟨h1, h2, h3⟩ := okW_nd.mp ho
  rw [leaves_nd] at h
  obtain ⟨K, hK⟩ : ∃ K, ∀ t ∈ l, Sw K (encPT t) := by
    have : ∀ k : List PT, (∀ t ∈ k, t ∈ l) → ∃ K, ∀ t ∈ k, Sw K (encPT t) := by
      intro k
      induction k with
      | nil => exact fun _ => ⟨0, fun _ h => nomatch h⟩
      | cons t k ihk =>
        intro hk
        obtain ⟨K1, h4⟩ := ihk fun x hx => hk x (List.mem_cons_of_mem _ hx)
        have ht := hk t List.mem_cons_self
        obtain ⟨K2, h5⟩ := ih t ht (fun n hn => h n ((leavesL_mem ht).2 n hn)) w (h3 t ht)
        refine ⟨max K1 K2, fun x hx => ?_⟩
        rcases List.mem_cons.mp hx with rfl | hx
        · exact h5.le (Nat.le_max_right _ _)
        · exact (h4 x hx).le (Nat.le_max_left _ _)
    exact this l fun _ h => h
  rw [encPT_nd]
  exact ⟨_, sw_tup (n := l.length) (by rw [List.length_map]; exact Nat.le_refl _) fun d hd => by
    obtain ⟨t, ht, rfl⟩ := List.mem_map.mp hd
    exact hK t ht⟩
/-- a tree may be shown -/
theorem sw_tree {t : PT} {w : Nat} (h : ∀ n ∈ t.leaves, -1000000000000 < n ∧ n < 1000000000000) (ho : t.okW w) : Sw (42 * t.leaves.length) (encPT t) := by
  obtain ⟨k, hk⟩ := sw_pt t h w ho
  exact ⟨by have := weight_pt t h w ho; omega, hk.2⟩
theorem dt_lf {B : Hp} (n : Int) : Dt B (.int n) (encPT (.lf n)) := by rw [encPT_lf]; exact .int n
theorem dt_nd {B : Hp} {p : Addr} {xs : List V} {l : List PT} (h : B p = some (.tup xs)) (hd : Dts B xs (l.map encPT)) : Dt B (.ref p) (encPT (.nd l)) := by rw [encPT_nd]; exact .tup h hd
theorem Dt.lf {B : Hp} {v : V} {n : Int} (h : Dt B v (encPT (.lf n))) : v = .int n := by rw [encPT_lf] at h; exact h.i
theorem Dt.nd {B : Hp} {v : V} {l : List PT} (h : Dt B v (encPT (.nd l))) : ∃ p xs, v = .ref p ∧ B p = some (.tup xs) ∧ Dts B xs (l.map encPT) := by rw [encPT_nd] at h; exact h.tuple
/-! numbers of a list by their places -/
def szN (ns : List Int) (n : Int) : Int := ns.getD n.toNat 0
theorem szN_at {ns : List Int} {n : Int} (h0 : 0 ≤ n) (h1 : n < ns.length) : ns[n.toNat]? = some (szN ns n) := by
  unfold szN
  rw [List.getD_eq_getElem?_getD, List.getElem?_eq_getElem (by omega)]; rfl
theorem ix_size {K : PySem.W.Frag} {H : Hp} {Q : VK} {p : Addr} {ns : List Int} {n : Int} (h : H p = some (.lst (ns.map V.int))) (h0 : 0 ≤ n) (h1 : n < ns.length) (q : Q (.int (szN ns n)) H) : gIx K (.ref p) (.int n) H Q := by
  obtain ⟨j, rfl⟩ := nat_of h0
  refine ix_nat h ?_ q
  rw [List.getElem?_map, ← Int.toNat_natCast j, szN_at (by omega) h1]; rfl
end G

namespace G
open PySem PySem.Spec PyProof.Rows L2 TL RZ

/-! ### things of any form as trees of merges -/
mutual
def leavesD : PyData → List Int
  | .tuple ds => leavesDs ds
  | .int i => [i]
  | .none => []
  | .bool _ => []
  | .str _ => []
  | .list _ => []
  | .dict _ => []
def leavesDs : List PyData → List Int
  | [] => []
  | d :: ds => leavesD d ++ leavesDs ds
end
mutual
def formedD (w : Nat) : PyData → Bool
  | .tuple ds => decide (2 ≤ ds.length) && decide (ds.length ≤ w) && formedDs w ds
  | .int _ => true
  | .none => false
  | .bool _ => false
  | .str _ => false
  | .list _ => false
  | .dict _ => false
def formedDs (w : Nat) : List PyData → Bool
  | [] => true
  | d :: ds => formedD w d && formedDs w ds
end
mutual
def nodesD : PyData → Nat
  | .tuple ds => 1 + nodesDs ds
  | .int _ => 1
  | .none => 1
  | .bool _ => 1
  | .str _ => 1
  | .list _ => 1
  | .dict _ => 1
def nodesDs : List PyData → Nat
  | [] => 0
  | d :: ds => nodesD d + nodesDs ds
end
theorem formedD_tup (w : Nat) (ds : List PyData) : formedD w (.tuple ds) = (decide (2 ≤ ds.length) && decide (ds.length ≤ w) && formedDs w ds) := by rw [formedD]
theorem formedDs_all (w : Nat) : ∀ ds : List PyData, formedDs w ds = ds.all (formedD w)
  | [] => by rw [formedDs]; rfl
  | d :: ds => by rw [formedDs, formedDs_all w ds]; rfl
theorem leavesD_tup (ds : List PyData) : leavesD (.tuple ds) = leavesDs ds := by rw [leavesD]
theorem leavesDs_flat : ∀ ds : List PyData, leavesDs ds = ds.flatMap leavesD
  | [] => by rw [leavesDs]; rfl
  | d :: ds => by rw [leavesDs, leavesDs_flat ds]; rfl
theorem nodesD_tup (ds : List PyData) : nodesD (.tuple ds) = 1 + nodesDs ds := by rw [nodesD]
theorem nodesDs_cons (d : PyData) (ds : List PyData) : nodesDs (d :: ds) = nodesD d + nodesDs ds := by rw [nodesDs]
theorem nodesDs_nil : nodesDs [] = 0 := by rw [nodesDs]
theorem nodesDs_app : ∀ a b : List PyData, nodesDs (a ++ b) = nodesDs a + nodesDs b
  | [], b => by rw [nodesDs_nil, Nat.zero_add]; rfl
  | d :: a, b => by rw [List.cons_append, nodesDs_cons, nodesDs_cons, nodesDs_app a b, Nat.add_assoc]
theorem nodesD_pos : ∀ d : PyData, 1 ≤ nodesD d
  | .tuple ds => by rw [nodesD_tup]; omega
  | .int _ => by rw [nodesD]; exact Nat.le_refl _
  | .none => by rw [nodesD]; exact Nat.le_refl _
  | .bool _ => by rw [nodesD]; exact Nat.le_refl _
  | .str _ => by rw [nodesD]; exact Nat.le_refl _
  | .list _ => by rw [nodesD]; exact Nat.le_refl _
  | .dict _ => by rw [nodesD]; exact Nat.le_refl _
theorem nodesDs_len : ∀ ds : List PyData, ds.length ≤ nodesDs ds
  | [] => Nat.zero_le _
  | d :: ds => by
    rw [nodesDs_cons, List.length_cons]
    have := nodesD_pos d
    have := nodesDs_len ds
    omega
mutual
theorem nodesD_weight : ∀ d : PyData, nodesD d ≤ d.weight + 1
  | .tuple ds => by
    rw [nodesD_tup, PyData.weight]
    have := nodesDs_weight ds
    omega
  | .int _ => by rw [nodesD]; omega
  | .none => by rw [nodesD]; omega
  | .bool _ => by rw [nodesD]; omega
  | .str _ => by rw [nodesD]; omega
  | .list _ => by rw [nodesD]; omega
  | .dict _ => by rw [nodesD]; omega
theorem nodesDs_weight : ∀ ds : List PyData, nodesDs ds ≤ PyData.weightAll ds
  | [] => by rw [nodesDs_nil]; exact Nat.zero_le _
  | d :: ds => by
    rw [nodesDs_cons, PyData.weightAll]
    have := nodesD_weight d
    have := nodesDs_weight ds
    omega
end
mutual
theorem formed_pt (w : Nat) : ∀ d : PyData, formedD w d = true → ∃ t : PT, d = encPT t ∧ t.okW w
  | .tuple ds, h => by
    rw [formedD_tup, Bool.and_eq_true, Bool.and_eq_true, decide_eq_true_eq, decide_eq_true_eq] at h
    obtain ⟨l, h1, h2⟩ := formed_pts w ds h.2
    have hl : ds.length = l.length := by rw [h1, List.length_map]
    exact ⟨.nd l, by rw [encPT_nd, h1], okW_nd.mpr ⟨by omega, by omega, h2⟩⟩
  | .int i, _ => ⟨.lf i, (encPT_lf i).symm, okW_lf⟩
  | .none, h => by rw [formedD] at h; cases h
  | .bool _, h => by rw [formedD] at h; cases h
  | .str _, h => by rw [formedD] at h; cases h
  | .list _, h => by rw [formedD] at h; cases h
  | .dict _, h => by rw [formedD] at h; cases h
theorem formed_pts (w : Nat) : ∀ ds : List PyData, formedDs w ds = true → ∃ l : List PT, ds = l.map encPT ∧ ∀ t ∈ l, t.okW w
  | [], _ => ⟨[], rfl, fun _ h => nomatch h⟩
  | d :: ds, h => by
    rw [formedDs, Bool.and_eq_true] at h
    obtain ⟨t, h1, h2⟩ := formed_pt w d h.1
    obtain ⟨l, h3, h4⟩ := formed_pts w ds h.2
    exact ⟨t :: l, by rw [h1, h3]; rfl, fun x hx => by
      rcases List.mem_cons.mp hx with rfl | hx
      · exact h2
      · exact h4 x hx⟩
end
theorem enc_formed {w : Nat} : ∀ t : PT, t.okW w → formedD w (encPT t) = true := PT.ind (fun n _ => by rw [encPT_lf, formedD]) fun l ih ho => by
  obtain ⟨h1, h2, h3⟩ := okW_nd.mp ho
  rw [encPT_nd, formedD_tup, formedDs_all, List.length_map, decide_eq_true h1, decide_eq_true h2, Bool.true_and, Bool.true_and, List.all_eq_true]
  intro d hd
  obtain ⟨t, ht, rfl⟩ := List.mem_map.mp hd
  exact ih t ht (h3 t ht)
theorem enc_leaves : ∀ t : PT, leavesD (encPT t) = t.leaves := PT.ind (fun n => by rw [encPT_lf, leavesD, leaves_lf]) fun l ih => by
  rw [encPT_nd, leavesD_tup, leavesDs_flat, leaves_nd]
  have : ∀ k : List PT, (∀ t ∈ k, t ∈ l) → (k.map encPT).flatMap leavesD = PT.leavesL k := by
    intro k
    induction k with
    | nil => intro _; rw [leavesL_nil]; rfl
    | cons t k ihk =>
      intro hk
      rw [List.map_cons, List.flatMap_cons, leavesL_cons, ih t (hk t List.mem_cons_self), ihk fun x hx => hk x (List.mem_cons_of_mem _ hx)]
  exact this l fun _ h => h
theorem leaves_nodesT : ∀ t : PT, t.leaves.length ≤ nodesD (encPT t) := PT.ind (fun n => by rw [encPT_lf, leaves_lf, nodesD]; exact Nat.le_refl _) fun l ih => by
  rw [encPT_nd, nodesD_tup, leaves_nd]
  have : ∀ k : List PT, (∀ t ∈ k, t ∈ l) → (PT.leavesL k).length ≤ nodesDs (k.map encPT) := by
    intro k
    induction k with
    | nil => intro _; rw [leavesL_nil]; exact Nat.zero_le _
    | cons t k ihk =>
      intro hk
      have a := ih t (hk t List.mem_cons_self)
      have b := ihk fun x hx => hk x (List.mem_cons_of_mem _ hx)
      rw [leavesL_cons, List.map_cons, nodesDs_cons, List.length_append]; omega
  have := this l fun _ h => h
  omega
/-- what is_plan tells -/
def planD (w n : Nat) (d : PyData) : Bool := formedD w d && decide ((leavesD d).Perm (rgI 0 n))
theorem rgI_rise (n : Nat) : (rgI 0 n).Pairwise (· ≤ ·) := by
  unfold rgI
  exact List.pairwise_map.mpr ((List.pairwise_lt_range).imp fun h => by omega)
theorem sorted_rg {ys R : List Int} {n : Nat} (h1 : ys.Perm R) (h2 : ys.Pairwise (· ≤ ·)) : ys = rgI 0 n ↔ R.Perm (rgI 0 n) := sorted_eq h1 h2 (.refl _) (rgI_rise n)
/-! ### what may be shown, with longer numbers -/
def Sh0 (d : PyData) : Prop := d.intsShort 25 = true ∧ d.showable = true
theorem sh_all : ∀ {ds : List PyData}, (∀ d ∈ ds, Sh0 d) → PyData.intsShortAll 25 ds = true ∧ PyData.showableAll ds = true
  | [], _ => ⟨by simp [PyData.intsShortAll], by simp [PyData.showableAll]⟩
  | d :: ds, h => by
    have h1 := h d List.mem_cons_self
    have h2 := sh_all (ds := ds) fun x hx => h x (List.mem_cons_of_mem _ hx)
    rw [PyData.intsShortAll, PyData.showableAll, h1.1, h1.2, h2.1, h2.2]
    exact ⟨rfl, rfl⟩
theorem sh_list {ds : List PyData} (h : ∀ d ∈ ds, Sh0 d) : Sh0 (.list ds) := by
  obtain ⟨h1, h2⟩ := sh_all h
  exact ⟨by rw [PyData.intsShort]; exact h1, by rw [PyData.showable]; exact h2⟩
theorem sh_tup {ds : List PyData} (h : ∀ d ∈ ds, Sh0 d) : Sh0 (.tuple ds) := by
  obtain ⟨h1, h2⟩ := sh_all h
  exact ⟨by rw [PyData.intsShort]; exact h1, by rw [PyData.showable]; exact h2⟩
theorem sh_non : Sh0 .none := ⟨rfl, sw_non (k := 0).2.2⟩
theorem sh_bool {b : Bool} : Sh0 (.bool b) := ⟨rfl, (sw_bool (k := 0) (b := b)).2.2⟩
theorem sh_str {z : Str} : Sh0 (.str z) := ⟨rfl, (sw_str (Nat.le_refl z.length)).2.2⟩
theorem sh_int {i : Int} (h : i.natAbs < 10 ^ 24) : Sh0 (.int i) := by
  have e := int_text_length_le10 (k := 24) (by decide) h
  refine ⟨?_, ?_⟩
  · rw [PyData.intsShort]
    refine decide_eq_true ?_
    show (Str.ofString (toString i)).length ≤ 25
    rw [PySem.ofString_length]; exact e
  · rw [PyData.showable]
    have h2 : i.natAbs < 2 ^ 80 := Nat.lt_of_lt_of_le h (by decide)
    have h3 : i.natAbs.log2 < 80 ∨ i.natAbs = 0 := by
      by_cases c : i.natAbs = 0
      · exact .inr c
      · exact .inl ((Nat.log2_lt c).mpr h2)
    rcases h3 with h3 | h3
    · exact decide_eq_true (by omega)
    · rw [h3]; decide
theorem sh_sub {ds : List PyData} : (Sh0 (.list ds) ∨ Sh0 (.tuple ds)) → ∀ d ∈ ds, Sh0 d := by
  intro h
  have h' : PyData.intsShortAll 25 ds = true ∧ PyData.showableAll ds = true := by
    rcases h with h | h
    · exact ⟨by have := h.1; rwa [PyData.intsShort] at this, by have := h.2; rwa [PyData.showable] at this⟩
    · exact ⟨by have := h.1; rwa [PyData.intsShort] at this, by have := h.2; rwa [PyData.showable] at this⟩
  clear h
  induction ds with
  | nil => exact fun _ h => nomatch h
  | cons a ds ih =>
    rw [PyData.intsShortAll, PyData.showableAll, Bool.and_eq_true, Bool.and_eq_true] at h'
    intro d hd
    rcases List.mem_cons.mp hd with rfl | hd
    · exact ⟨h'.1.1, h'.2.1⟩
    · exact ih ⟨h'.1.2, h'.2.2⟩ d hd
theorem wAll_app : ∀ a b : List PyData, PyData.weightAll (a ++ b) = PyData.weightAll a + PyData.weightAll b
  | [], b => by rw [List.nil_append, PyData.weightAll, Nat.zero_add]
  | d :: a, b => by rw [List.cons_append, PyData.weightAll, PyData.weightAll, wAll_app a b]; omega
theorem wAll_mem {ds : List PyData} {d : PyData} (h : d ∈ ds) : d.weight + 1 ≤ PyData.weightAll ds := by
  obtain ⟨a, b, rfl⟩ := List.append_of_mem h
  rw [wAll_app, PyData.weightAll]; omega
theorem wAll_take (ds : List PyData) (k : Nat) : PyData.weightAll (ds.take k) + PyData.weightAll (ds.drop k) = PyData.weightAll ds := by
  rw [← wAll_app, List.take_append_drop]
/-- a thing: how deep, how much there is in it -/
structure Tg (n k : Nat) (d : PyData) : Prop where
  fits : Fits n d
  sh : Sh0 d
  wt : d.weight ≤ k
theorem Tg.le {n k n' k' : Nat} {d : PyData} (h : Tg n k d) (hn : n ≤ n') (hk : k ≤ k') : Tg n' k' d := ⟨h.fits.le hn, h.sh, Nat.le_trans h.wt hk⟩
theorem tg_list {n k : Nat} {ds : List PyData} (h : ∀ d ∈ ds, Fits n d ∧ Sh0 d) (hl : ds.length ≤ 100000) (hw : PyData.weightAll ds ≤ k) : Tg (n + 1) k (.list ds) :=
  ⟨fits_list hl fun d hd => (h d hd).1, sh_list fun d hd => (h d hd).2, by rw [PyData.weight]; exact hw⟩
theorem tg_tup {n k : Nat} {ds : List PyData} (h : ∀ d ∈ ds, Fits n d ∧ Sh0 d) (hl : ds.length ≤ 100000) (hw : PyData.weightAll ds ≤ k) : Tg (n + 1) k (.tuple ds) :=
  ⟨fits_tup hl fun d hd => (h d hd).1, sh_tup fun d hd => (h d hd).2, by rw [PyData.weight]; exact hw⟩
theorem Tg.tup {n k : Nat} {ds : List PyData} (h : Tg n k (.tuple ds)) : ∃ m, n = m + 1 ∧ ds.length ≤ 100000 ∧ PyData.weightAll ds ≤ k ∧ ∀ d ∈ ds, Fits m d ∧ Sh0 d := by
  obtain ⟨m, hm, hl, hf⟩ := h.fits.tu
  have hw := h.wt
  rw [PyData.weight] at hw
  exact ⟨m, hm, hl, hw, fun d hd => ⟨hf d hd, sh_sub (.inr h.sh) d hd⟩⟩
theorem str_tg {K : PySem.W.Frag} {B H : Hp} {Q : VK} {x : V} {d : PyData} (s : Same B H) (h : Dt B x d) (t : Tg 60 100000 d) (q : Q (.str (txt d)) H) : gStr K [x] H Q := by
  have hc := t.fits.all
  have hz := PyData.shown_le 25 (by decide) d (PyData.leavesShort_of_canLay0 25 d hc.2.1 t.sh.1)
  have hw := t.wt
  exact str_data s h t.sh.2 (by rw [sizeLine_eq]; omega) hc.1 (PyData.hasDict_of_canLay d hc.2.1) q
/-! ### tuple(range(n)); slices and sums of tuples as data -/
theorem g_tupRg {ta : TE} {σ : L2.St} {H : Hp} {Q : VK} (h : ta σ H fun x H1 => ∃ n, x = .int n ∧ (RgOk 0 n ∧ ∀ q, H1 q = none → Q (.ref q) (upd H1 q (.tup (rgV 0 n))))) : tTupRg (tRg1 ta) σ H Q := h
theorem tupRg {n : Nat} {H : Hp} {Q : VK} (h1 : n ≤ 16777216) (q : AtNew Q (.tup ((rgI 0 n).map V.int)) H) : ∃ m : Int, V.int (n : Int) = .int m ∧ (RgOk 0 m ∧ ∀ q, H q = none → Q (.ref q) (upd H q (.tup (rgV 0 m)))) :=
  ⟨n, rfl, .of_le (by omega) (by omega) (by omega) (by omega), fun p hp => by rw [rgV_eq]; exact q p hp⟩
def gSlA (K : PySem.W.Frag) : V → Option Int → Option Int → Hp → VK → Prop := rSlA K
theorem oSlA {X : Cx} {K : PySem.W.Frag} (hK : X.K = K := by rfl) : SlR X (gSlA K) := by subst hK; exact sl_tupA
def cutD (ds : List PyData) (lo hi : Option Int) : List PyData := (ds.drop (HT.sIx ds.length 0 lo)).take (HT.sIx ds.length ds.length hi - HT.sIx ds.length 0 lo)
theorem Dts.cut {B : Hp} {vs : List V} {ds : List PyData} (h : Dts B vs ds) (lo hi : Option Int) : Dts B (cutV vs lo hi) (cutD ds lo hi) := by
  unfold cutV cutD
  rw [h.len]
  exact (h.drop _).take _
section
variable {K : PySem.W.Frag} {B H B0 H0 : Hp} {Q : VK} {a p : Addr} {n : Nat} {v x y : V} {ds es : List PyData} {lo hi : Option Int}
theorem Oth.refl : Oth a B H B H := ⟨fun _ _ _ e => e, fun _ _ => rfl⟩
theorem Old.refl : Old B H B H := ⟨Same.refl _, fun _ _ => rfl⟩
theorem cut_whole (h : HT.sIx ds.length 0 lo = 0 ∧ HT.sIx ds.length ds.length hi = ds.length) : cutD ds lo hi = ds := by
  unfold cutD
  rw [h.1, h.2, List.drop_zero, Nat.sub_zero, List.take_length]
theorem St.slA (S : G.St a B0 H0 n B H) (hD : Dt B x (.tuple ds)) (q : ∀ v B' H', G.St a B0 H0 n B' H' → Oth a B H B' H' → Same B B' → Dt B' v (.tuple (cutD ds lo hi)) → Q v H') : gSlA K x lo hi H Q := by
  obtain ⟨p, xs, rfl, hp, hx⟩ := hD.tuple
  have hl := hx.len
  refine ⟨p, xs, rfl, .inl (.inl (S.sub _ _ hp)), fun hw => ?_, fun _ => ?_⟩
  · rw [hl] at hw
    exact q _ B H S Oth.refl (Same.refl _) (by rw [cut_whole hw]; exact hD)
  · exact S.atNew fun p1 B1 H1 S1 O1 K1 n1 e1 => q _ B1 H1 S1 O1 K1 (.tup e1 ((hx.mono K1).cut lo hi))
theorem Pu.slA (S : Pu B0 H0 B H) (hD : Dt B x (.tuple ds)) (q : ∀ v B' H', Pu B0 H0 B' H' → Old B H B' H' → Same B B' → Dt B' v (.tuple (cutD ds lo hi)) → Q v H') : gSlA K x lo hi H Q := by
  obtain ⟨p, xs, rfl, hp, hx⟩ := hD.tuple
  have hl := hx.len
  refine ⟨p, xs, rfl, .inl (.inl (S.sub _ _ hp)), fun hw => ?_, fun _ => ?_⟩
  · rw [hl] at hw
    exact q _ B H S Old.refl (Same.refl _) (by rw [cut_whole hw]; exact hD)
  · exact S.atNew fun p1 B1 H1 S1 O1 K1 n1 e1 => q _ B1 H1 S1 O1 K1 (.tup e1 ((hx.mono K1).cut lo hi))
theorem St.catA (S : G.St a B0 H0 n B H) (h1 : Dt B x (.tuple ds)) (h2 : Dt B y (.tuple es)) (hl : ds.length + es.length ≤ 1048576) (q : ∀ v B' H', G.St a B0 H0 n B' H' → Oth a B H B' H' → Same B B' → Dt B' v (.tuple (ds ++ es)) → Q v H') : gAdd K x y H Q := by
  obtain ⟨p, xs, rfl, hp, hx⟩ := h1.tuple
  obtain ⟨p2, ys, rfl, hp2, hy⟩ := h2.tuple
  have l1 := hx.len
  have l2 := hy.len
  refine .inr (.inr (.inr (.inl ⟨p, p2, xs, ys, rfl, rfl, .inl (.inl (S.sub _ _ hp)), .inl (.inl (S.sub _ _ hp2)), szl' (by omega), fun e => ?_, fun _ e => ?_, fun _ _ => ?_⟩)))
  · subst e
    cases hx
    exact q _ B H S Oth.refl (Same.refl _) h2
  · subst e
    cases hy
    exact q _ B H S Oth.refl (Same.refl _) (by rw [List.append_nil]; exact h1)
  · exact S.atNew fun p1 B1 H1 S1 O1 K1 n1 e1 => q _ B1 H1 S1 O1 K1 (.tup e1 ((hx.mono K1).app (hy.mono K1)))
theorem Pu.catA (S : Pu B0 H0 B H) (h1 : Dt B x (.tuple ds)) (h2 : Dt B y (.tuple es)) (hl : ds.length + es.length ≤ 1048576) (q : ∀ v B' H', Pu B0 H0 B' H' → Old B H B' H' → Same B B' → Dt B' v (.tuple (ds ++ es)) → Q v H') : gAdd K x y H Q := by
  obtain ⟨p, xs, rfl, hp, hx⟩ := h1.tuple
  obtain ⟨p2, ys, rfl, hp2, hy⟩ := h2.tuple
  have l1 := hx.len
  have l2 := hy.len
  refine .inr (.inr (.inr (.inl ⟨p, p2, xs, ys, rfl, rfl, .inl (.inl (S.sub _ _ hp)), .inl (.inl (S.sub _ _ hp2)), szl' (by omega), fun e => ?_, fun _ e => ?_, fun _ _ => ?_⟩)))
  · subst e
    cases hx
    exact q _ B H S Old.refl (Same.refl _) h2
  · subst e
    cases hy
    exact q _ B H S Old.refl (Same.refl _) (by rw [List.append_nil]; exact h1)
  · exact S.atNew fun p1 B1 H1 S1 O1 K1 n1 e1 => q _ B1 H1 S1 O1 K1 (.tup e1 ((hx.mono K1).app (hy.mono K1)))
end
theorem cutD_take (ds : List PyData) (k : Nat) : cutD ds none (some (k : Int)) = ds.take k := by
  have h := cut_take (fun n : Nat => V.int n) (List.range ds.length) k
  unfold cutD
  have e : HT.sIx ds.length 0 none = 0 := rfl
  rw [e, List.drop_zero, Nat.sub_zero]
  have e2 : HT.sIx ds.length ds.length (some (k : Int)) = min k ds.length := by
    have := congrArg List.length h
    unfold cutV at this
    rw [List.length_map, List.length_range, List.length_map, List.length_take, List.length_take, List.length_range, List.length_drop, List.length_map, List.length_range, e] at this
    have hle := HT.sIx_le ds.length ds.length (Nat.le_refl _) (some (k : Int))
    omega
  rw [e2]
  by_cases c : k ≤ ds.length
  · rw [Nat.min_eq_left c]
  · rw [Nat.min_eq_right (by omega), List.take_length, List.take_of_length_le (by omega)]
theorem cutD_drop (ds : List PyData) (k : Nat) : cutD ds (some (k : Int)) none = ds.drop k := by
  have h := cut_drop (fun n : Nat => V.int n) (List.range ds.length) k
  unfold cutD
  have e : HT.sIx ds.length ds.length none = ds.length := rfl
  rw [e]
  have e2 : HT.sIx ds.length 0 (some (k : Int)) = min k ds.length := by
    have := congrArg List.length h
    unfold cutV at this
    simp only [List.length_map, List.length_range, List.length_take, List.length_drop] at this
    have hle := HT.sIx_le ds.length 0 (Nat.zero_le _) (some (k : Int))
    rw [e] at this
    omega
  rw [e2]
  by_cases c : k ≤ ds.length
  · rw [Nat.min_eq_left c, List.take_of_length_le (by rw [List.length_drop]; omega)]
  · rw [Nat.min_eq_right (by omega), List.drop_length, List.drop_of_length_le (by omega), List.take_nil]

/-- what follows a statement, told once -/
theorem n_cut {t : TS} {n b c : L2.St → Hp → Prop} {r : VK} {σ : L2.St} {H : Hp} (I : L2.St → Hp → Prop) (h2 : ∀ σ H, I σ H → n σ H) (h : ∀ N : L2.St → Hp → Prop, (∀ σ H, I σ H → N σ H) → t ⟨N, r, b, c⟩ σ H) : t ⟨n, r, b, c⟩ σ H := h n h2
end G

namespace G
open PySem PySem.Spec PyProof.Rows L2 TL RZ

/-! ### the prices of neighbours, in plain -/
/-- the numbers b+1 .. e-1 -/
def cutsN (b e : Nat) : List Nat := (List.range (e - b - 1)).map fun i => b + 1 + i
theorem cutsN_mem {b e c : Nat} : c ∈ cutsN b e ↔ b < c ∧ c < e := by
  unfold cutsN
  rw [List.mem_map]
  constructor
  · rintro ⟨i, hi, rfl⟩
    have := List.mem_range.mp hi
    omega
  · intro ⟨h1, h2⟩
    exact ⟨c - b - 1, List.mem_range.mpr (by omega), by omega⟩
theorem cutsN_len {b e : Nat} : (cutsN b e).length = e - b - 1 := by unfold cutsN; rw [List.length_map, List.length_range]
/-- the least of a number and others -/
def leastI (x : Int) (l : List Int) : Int := l.foldl min x
theorem leastI_le : ∀ (l : List Int) (x : Int), leastI x l ≤ x ∧ ∀ y ∈ l, leastI x l ≤ y
  | [], x => ⟨Int.le_refl _, fun _ h => nomatch h⟩
  | a :: l, x => by
    obtain ⟨h1, h2⟩ := leastI_le l (min x a)
    refine ⟨Int.le_trans h1 (Int.min_le_left _ _), fun y hy => ?_⟩
    rcases List.mem_cons.mp hy with rfl | hy
    · exact Int.le_trans h1 (Int.min_le_right _ _)
    · exact h2 y hy
theorem leastI_mem : ∀ (l : List Int) (x : Int), leastI x l = x ∨ leastI x l ∈ l
  | [], x => .inl rfl
  | a :: l, x => by
    rcases leastI_mem l (min x a) with h | h
    · show leastI (min x a) l = x ∨ leastI (min x a) l ∈ a :: l
      rw [h]
      rcases Int.le_total x a with c | c
      · left; rw [Int.min_eq_left c]
      · right; rw [Int.min_eq_right c]; exact List.mem_cons_self
    · exact .inr (List.mem_cons_of_mem _ h)
theorem leastI_eq {l : List Int} {x m : Int} (h1 : m = x ∨ m ∈ l) (h2 : m ≤ x) (h3 : ∀ y ∈ l, m ≤ y) : m = leastI x l := by
  obtain ⟨a, b⟩ := leastI_le l x
  refine Int.le_antisymm ?_ ?_
  · rcases leastI_mem l x with h | h
    · rw [h]; exact h2
    · exact h3 _ h
  · rcases h1 with h | h
    · rw [h]; exact a
    · exact b _ h
/-- the least cost of a stretch laid beside others, in at most k+1 parts, by the prices P -/
def besF (P : Nat → Nat → Int) (e : Nat) : Nat → Nat → Int
  | 0, b => P b e
  | k + 1, b => leastI (P b e) ((cutsN b e).map fun c => P b c + besF P e k c)
def cutF (P : Nat → Nat → Int) (e k b : Nat) : List (Int × Int) := (cutsN b e).map fun c => (P b c + besF P e k c, (c : Int))
theorem besF_congr {P P' : Nat → Nat → Int} {e : Nat} : ∀ (k b : Nat), (∀ x y, b ≤ x → x < y → y ≤ e → P x y = P' x y) → b < e → besF P e k b = besF P' e k b
  | 0, b, h, hb => h b e (Nat.le_refl _) hb (Nat.le_refl _)
  | k + 1, b, h, hb => by
    rw [besF, besF, h b e (Nat.le_refl _) hb (Nat.le_refl _)]
    congr 1
    refine List.map_congr_left fun c hc => ?_
    have := cutsN_mem.mp hc
    rw [h b c (Nat.le_refl _) this.1 (by omega), besF_congr k c (fun x y h1 h2 h3 => h x y (by omega) h2 h3) this.2]
/-- the price, by so much fuel -/
def prF (w : Nat) (S : Nat → Nat → Int) : Nat → Nat → Nat → Int
  | 0, _, _ => 0
  | n + 1, b, e => if e - b ≤ 1 then 0 else S b e + leastI (prF w S n b (b + 1) + besF (prF w S n) e (w - 2) (b + 1)) ((cutsN b e).map fun c => prF w S n b c + besF (prF w S n) e (w - 2) c)
theorem prF_fuel {w : Nat} {S : Nat → Nat → Int} : ∀ (n m b e : Nat), e - b ≤ n → e - b ≤ m → prF w S n b e = prF w S m b e
  | 0, 0, b, e, _, _ => rfl
  | 0, m + 1, b, e, h, _ => by rw [prF, prF, if_pos (by omega)]
  | n + 1, 0, b, e, _, h => by rw [prF, prF, if_pos (by omega)]
  | n + 1, m + 1, b, e, h1, h2 => by
    rw [prF, prF]
    by_cases c : e - b ≤ 1
    · rw [if_pos c, if_pos c]
    · rw [if_neg c, if_neg c]
      have key : ∀ c, b < c → c < e → prF w S n b c + besF (prF w S n) e (w - 2) c = prF w S m b c + besF (prF w S m) e (w - 2) c := fun c h3 h4 => by
        rw [prF_fuel n m b c (by omega) (by omega), besF_congr (w - 2) c (fun x y hx hxy hy => prF_fuel n m x y (by omega) (by omega)) h4]
      rw [key (b + 1) (by omega) (by omega)]
      congr 2
      refine List.map_congr_left fun c hc => ?_
      have := cutsN_mem.mp hc
      exact key c this.1 this.2
def prW (w : Nat) (S : Nat → Nat → Int) (b e : Nat) : Int := prF w S (e - b) b e
theorem prW_one {w b e : Nat} {S : Nat → Nat → Int} (h : e - b ≤ 1) : prW w S b e = 0 := by
  unfold prW
  rcases Nat.eq_zero_or_pos (e - b) with h1 | h1
  · rw [h1]; rfl
  · rw [show e - b = 0 + 1 by omega, prF, if_pos h]
/-- what the cut at c costs -/
def cutC (w : Nat) (S : Nat → Nat → Int) (e k b c : Nat) : Int := prW w S b c + besF (prW w S) e k c
theorem prW_eq {w b e : Nat} {S : Nat → Nat → Int} (h : 2 ≤ e - b) : prW w S b e = S b e + leastI (cutC w S e (w - 2) b (b + 1)) ((cutsN b e).map (cutC w S e (w - 2) b)) := by
  unfold prW
  obtain ⟨n, hn⟩ : ∃ n, e - b = n + 1 := ⟨e - b - 1, by omega⟩
  rw [hn, prF, if_neg (by omega)]
  have key : ∀ c, b < c → c < e → prF w S n b c + besF (prF w S n) e (w - 2) c = cutC w S e (w - 2) b c := fun c h3 h4 => by
    unfold cutC prW
    rw [prF_fuel n (c - b) b c (by omega) (by omega), besF_congr (P' := fun x y => prF w S (y - x) x y) (w - 2) c (fun x y hx hxy hy => prF_fuel n (y - x) x y (by omega) (by omega)) h4]
  rw [key (b + 1) (by omega) (by omega)]
  congr 2
  refine List.map_congr_left fun c hc => ?_
  have := cutsN_mem.mp hc
  exact key c this.1 this.2
/-- the cut that the price takes -/
theorem prW_cut {w b e : Nat} {S : Nat → Nat → Int} (h : 2 ≤ e - b) {m : Int} (h1 : ∃ c, b < c ∧ c < e ∧ m = cutC w S e (w - 2) b c) (h2 : ∀ c, b < c → c < e → m ≤ cutC w S e (w - 2) b c) : prW w S b e = S b e + m := by
  rw [prW_eq h]
  obtain ⟨c, hc1, hc2, rfl⟩ := h1
  congr 1
  exact (leastI_eq (.inr (List.mem_map.mpr ⟨c, cutsN_mem.mpr ⟨hc1, hc2⟩, rfl⟩)) (h2 _ (by omega) (by omega)) fun y hy => by
    obtain ⟨d, hd, rfl⟩ := List.mem_map.mp hy
    have := cutsN_mem.mp hd
    exact h2 d this.1 this.2).symm
/-! stretches cut into parts -/
inductive Spl : Nat → Nat → List Nat → Prop
  | one {b e : Nat} : b < e → Spl b e [e]
  | cons {b c e : Nat} {cs : List Nat} : b < c → Spl c e cs → Spl b e (c :: cs)
theorem Spl.lt : ∀ {b e cs}, Spl b e cs → b < e
  | _, _, _, .one h => h
  | _, _, _, .cons h t => Nat.lt_trans h t.lt
theorem Spl.ne : ∀ {b e cs}, Spl b e cs → 1 ≤ cs.length
  | _, _, _, .one h => Nat.le_refl _
  | _, _, _, .cons h t => by rw [List.length_cons]; omega
def sumP (P : Nat → Nat → Int) : Nat → List Nat → Int
  | _, [] => 0
  | b, c :: cs => P b c + sumP P c cs
/-- the least of what has a form -/
def IsMin (p : Int → Prop) (m : Int) : Prop := p m ∧ ∀ x, p x → m ≤ x
theorem IsMin.eq {p : Int → Prop} {m n : Int} (h : IsMin p m) (g : IsMin p n) : m = n := Int.le_antisymm (h.2 _ g.1) (g.2 _ h.1)
theorem besF_min {P : Nat → Nat → Int} {e : Nat} : ∀ (k b : Nat), b < e → IsMin (fun x => ∃ cs, Spl b e cs ∧ cs.length ≤ k + 1 ∧ x = sumP P b cs) (besF P e k b)
  | 0, b, h => by
    refine ⟨⟨[e], .one h, Nat.le_refl _, (Int.add_zero _).symm⟩, ?_⟩
    rintro x ⟨cs, hc, hl, rfl⟩
    cases hc with
    | one h => show P b e ≤ P b e + 0; omega
    | cons h t => have := t.ne; rw [List.length_cons] at hl; omega
  | k + 1, b, h => by
    rw [besF]
    refine ⟨?_, ?_⟩
    · rcases leastI_mem ((cutsN b e).map fun c => P b c + besF P e k c) (P b e) with g | g
      · exact ⟨[e], .one h, by rw [List.length_singleton]; omega, by rw [g]; exact (Int.add_zero _).symm⟩
      · obtain ⟨c, hc, hx⟩ := List.mem_map.mp g
        have hc' := cutsN_mem.mp hc
        obtain ⟨cs, h1, h2, h3⟩ := (besF_min (P := P) k c hc'.2).1
        exact ⟨c :: cs, .cons hc'.1 h1, by rw [List.length_cons]; omega, by rw [← hx, h3]; rfl⟩
    · rintro x ⟨cs, hc, hl, rfl⟩
      obtain ⟨l1, l2⟩ := leastI_le ((cutsN b e).map fun c => P b c + besF P e k c) (P b e)
      cases hc with
      | one h => show _ ≤ P b e + 0; omega
      | @cons b c e cs h t =>
        rw [List.length_cons] at hl
        refine Int.le_trans (l2 _ (List.mem_map.mpr ⟨c, cutsN_mem.mpr ⟨h, t.lt⟩, rfl⟩)) ?_
        have := (besF_min (P := P) k c t.lt).2 _ ⟨cs, t, by omega, rfl⟩
        show P b c + besF P e k c ≤ P b c + sumP P c cs
        omega
/-- a price is the least of what cutting in two to w parts costs -/
def PrOk (w : Nat) (S P : Nat → Nat → Int) (N : Nat) : Prop := ∀ b e, b < e → e ≤ N → (e - b = 1 → P b e = 0) ∧ (2 ≤ e - b → IsMin (fun x => ∃ cs, Spl b e cs ∧ 2 ≤ cs.length ∧ cs.length ≤ w ∧ x = S b e + sumP P b cs) (P b e))
theorem prW_ok {w : Nat} (hw : 2 ≤ w) (S : Nat → Nat → Int) (N : Nat) : PrOk w S (prW w S) N := by
  intro b e hb _
  refine ⟨fun h => prW_one (by omega), fun h => ?_⟩
  have low : ∀ cs, Spl b e cs → 2 ≤ cs.length → cs.length ≤ w → ∃ c, b < c ∧ c < e ∧ cutC w S e (w - 2) b c ≤ sumP (prW w S) b cs := by
    intro cs hs h2 hl
    cases hs with
    | one h => rw [List.length_singleton] at h2; omega
    | @cons b c e cs hbc t =>
      refine ⟨c, hbc, t.lt, ?_⟩
      rw [List.length_cons] at hl
      have := (besF_min (P := prW w S) (w - 2) c t.lt).2 _ ⟨cs, t, by omega, rfl⟩
      show _ + _ ≤ _ + sumP (prW w S) c cs
      omega
  rw [prW_eq h]
  obtain ⟨l1, l2⟩ := leastI_le ((cutsN b e).map (cutC w S e (w - 2) b)) (cutC w S e (w - 2) b (b + 1))
  have att : ∀ c, b < c → c < e → ∃ cs, Spl b e cs ∧ 2 ≤ cs.length ∧ cs.length ≤ w ∧ cutC w S e (w - 2) b c = sumP (prW w S) b cs := by
    intro c h1 h2
    obtain ⟨cs, g1, g2, g3⟩ := (besF_min (P := prW w S) (w - 2) c h2).1
    refine ⟨c :: cs, .cons h1 g1, by have := g1.ne; rw [List.length_cons]; omega, by rw [List.length_cons]; omega, ?_⟩
    show prW w S b c + besF (prW w S) e (w - 2) c = _
    rw [g3]; rfl
  refine ⟨?_, ?_⟩
  · have : ∃ c, b < c ∧ c < e ∧ leastI (cutC w S e (w - 2) b (b + 1)) ((cutsN b e).map (cutC w S e (w - 2) b)) = cutC w S e (w - 2) b c := by
      rcases leastI_mem ((cutsN b e).map (cutC w S e (w - 2) b)) (cutC w S e (w - 2) b (b + 1)) with g | g
      · exact ⟨b + 1, by omega, by omega, g⟩
      · obtain ⟨c, hc, hx⟩ := List.mem_map.mp g
        have hc' := cutsN_mem.mp hc
        exact ⟨c, hc'.1, hc'.2, hx.symm⟩
    obtain ⟨c, h1, h2, h3⟩ := this
    obtain ⟨cs, g1, g2, g3, g4⟩ := att c h1 h2
    exact ⟨cs, g1, g2, g3, by rw [h3, g4]⟩
  · rintro x ⟨cs, g1, g2, g3, rfl⟩
    obtain ⟨c, h1, h2, h3⟩ := low cs g1 g2 g3
    have := l2 _ (List.mem_map.mpr ⟨c, cutsN_mem.mpr ⟨h1, h2⟩, rfl⟩)
    omega
theorem sumP_congr {P P' : Nat → Nat → Int} : ∀ {b e cs}, Spl b e cs → (∀ x y, b ≤ x → x < y → y ≤ e → (x = b → y = e → cs.length = 1) → P x y = P' x y) → sumP P b cs = sumP P' b cs
  | b, e, _, .one hb, h => by
    show P b e + 0 = P' b e + 0
    rw [h b e (Nat.le_refl _) hb (Nat.le_refl _) (fun _ _ => rfl)]
  | b, e, _, .cons (c := c) (cs := cs) hb t, h => by
    show P b c + sumP P c cs = P' b c + sumP P' c cs
    rw [h b c (Nat.le_refl _) hb (Nat.le_of_lt t.lt) (fun _ z => absurd t.lt (by omega)), sumP_congr t fun x y h1 h2 h3 _ => h x y (by omega) h2 h3 (fun z => by omega)]
theorem PrOk.uniq {w : Nat} {S P P' : Nat → Nat → Int} {N : Nat} (h : PrOk w S P N) (g : PrOk w S P' N) : ∀ (n b e : Nat), e - b ≤ n → b < e → e ≤ N → P b e = P' b e
  | 0, b, e, hn, hb, _ => by omega
  | n + 1, b, e, hn, hb, he => by
    obtain ⟨h1, h2⟩ := h b e hb he
    obtain ⟨g1, g2⟩ := g b e hb he
    rcases Nat.lt_or_ge (e - b) 2 with c | c
    · rw [h1 (by omega), g1 (by omega)]
    · refine (h2 c).eq ?_
      have same : ∀ cs, Spl b e cs → 2 ≤ cs.length → sumP P b cs = sumP P' b cs := fun cs hs hl => sumP_congr hs fun x y hx hxy hy hne => by
        refine PrOk.uniq h g n x y ?_ hxy (by omega)
        by_cases c1 : x = b
        · by_cases c2 : y = e
          · have := hne c1 c2; omega
          · omega
        · omega
      obtain ⟨⟨cs, a1, a2, a3, a4⟩, a5⟩ := g2 c
      refine ⟨⟨cs, a1, a2, a3, by rw [a4, same cs a1 a2]⟩, ?_⟩
      rintro x ⟨ds, b1, b2, b3, rfl⟩
      exact a5 _ ⟨ds, b1, b2, b3, by rw [same ds b1 b2]⟩
end G

namespace G
open PySem PySem.Spec PyProof.Rows L2 TL RZ

/-! ### the prices in the heap -/
structure TxtP (K : PySem.W.Frag) (mg : Str → Option Value) (CP : Addr) : Prop where
  cp : Cls K CP
  mP : mg "Prices" = some (.ref CP)
  p1 : NoAttr K CP "own_ways"
  p2 : NoAttr K CP "own_many"
  p3 : NoAttr K CP "own_sums"
  p4 : NoAttr K CP "own_prices"
  p5 : NoAttr K CP "own_beside"
def pcF (w n : Int) (ps pp pb : Addr) : List (Str × V) := [("own_ways", .int w), ("own_many", .int n), ("own_sums", .ref ps), ("own_prices", .ref pp), ("own_beside", .ref pb)]
section
variable {w n : Int} {ps pp pb : Addr}
theorem pc_ways : (pcF w n ps pp pb).lookup ("own_ways" : Str) = some (V.int w) := by rfl
theorem pc_many : (pcF w n ps pp pb).lookup ("own_many" : Str) = some (V.int n) := by rfl
theorem pc_sums : (pcF w n ps pp pb).lookup ("own_sums" : Str) = some (V.ref ps) := by rfl
theorem pc_prices : (pcF w n ps pp pb).lookup ("own_prices" : Str) = some (V.ref pp) := by rfl
theorem pc_beside : (pcF w n ps pp pb).lookup ("own_beside" : Str) = some (V.ref pb) := by rfl
end
/-! a dict by tuples -/
section
variable {K : PySem.W.Frag} {H : Hp} {Q : VK} {d b : Addr}
theorem dget_t {kvs : List (List Key × V)} {k : List Key} {xs : List V} {v : V} (h : H d = some (.dT kvs)) (hb : H b = some (.tup xs)) (hx : xs = k.map kV) (hv : valV kvs k = some v) (q : Q v H) : gIx K (.ref d) (.ref b) H Q :=
  .inr ⟨d, v, rfl, by rw [← hv]; exact DGet.t h (by rw [← hx]; exact hb), q⟩
theorem dput_t {kvs : List (List Key × V)} {k : List Key} {xs : List V} {v : V} {R : Hp → Prop} (h : H d = some (.dT kvs)) (hb : H b = some (.tup xs)) (hx : xs = k.map kV) (hl : kvs.length < 1048576) (q : R (upd H d (.dT (putK kvs k v)))) : gSet (.ref d) (.ref b) v H R :=
  .inr ⟨d, _, rfl, DPut.t h (by rw [← hx]; exact hb) (szl'' hl), q⟩
theorem dnewT {σ : L2.St} (q : AtNew Q (.dT []) H) : tDNewT σ H Q := q
end
def k2 (b e : Nat) : List Key := [Sum.inl (b : Int), Sum.inl (e : Int)]
def k3 (b e p : Nat) : List Key := [Sum.inl (b : Int), Sum.inl (e : Int), Sum.inl (p : Int)]
theorem k2_inj {b e b' e' : Nat} : k2 b e = k2 b' e' ↔ b = b' ∧ e = e' := by
  unfold k2
  constructor
  · intro h
    injection h with h1 h2
    injection h2 with h2 _
    injection h1 with h1
    injection h2 with h2
    exact ⟨by omega, by omega⟩
  · rintro ⟨rfl, rfl⟩; rfl
theorem k3_inj {b e p b' e' p' : Nat} : k3 b e p = k3 b' e' p' ↔ b = b' ∧ e = e' ∧ p = p' := by
  unfold k3
  constructor
  · intro h
    injection h with h1 h2
    injection h2 with h2 h3
    injection h3 with h3 _
    injection h1 with h1
    injection h2 with h2
    injection h3 with h3
    exact ⟨by omega, by omega, by omega⟩
  · rintro ⟨rfl, rfl, rfl⟩; rfl
/-- the sums of the first ones -/
def preS (ns : List Int) : List Int := (List.range (ns.length + 1)).map fun i => (ns.take i).sum
theorem preS_at {ns : List Int} {i : Nat} (h : i ≤ ns.length) : (preS ns)[i]? = some ((ns.take i).sum) := by
  unfold preS
  rw [List.getElem?_map, List.getElem?_range (by omega)]; rfl
theorem preS_len (ns : List Int) : (preS ns).length = ns.length + 1 := by unfold preS; rw [List.length_map, List.length_range]
def szS (ns : List Int) (b e : Nat) : Int := (ns.take e).sum - (ns.take b).sum
theorem preS_snoc (ns : List Int) (x : Int) : preS (ns ++ [x]) = preS ns ++ [ns.sum + x] := by
  unfold preS
  rw [List.length_append, List.length_singleton, List.range_succ, List.map_append]
  congr 1
  · refine List.map_congr_left fun i hi => ?_
    have := List.mem_range.mp hi
    rw [List.take_append_of_le_length (by omega)]
  · rw [List.map_singleton, List.take_of_length_le (by rw [List.length_append, List.length_singleton]; exact Nat.le_refl _), List.sum_append]; simp
/-- what the tables hold, of the stretches of D -/
def PrT (w : Nat) (S : Nat → Nat → Int) (D : Nat → Nat → Prop) (kp kb : List (List Key × V)) : Prop :=
  ∀ b e, D b e → valV kp (k2 b e) = some (.int (prW w S b e)) ∧ ∀ k, k + 2 ≤ w → valV kb (k3 b e (k + 1)) = some (.int (besF (prW w S) e k b))
structure IsPr (CP : Addr) (H : Hp) (m : Addr) (w : Nat) (ns : List Int) (D : Nat → Nat → Prop) (dx ps pp pb : Addr) (kp kb : List (List Key × V)) : Prop where
  own : H m = some (.ins CP dx (pcF w ns.length ps pp pb))
  sums : H ps = some (.lst ((preS ns).map V.int))
  prices : H pp = some (.dT kp)
  beside : H pb = some (.dT kb)
  tab : PrT w (szS ns) D kp kb
  hw : 2 ≤ w
  hw2 : w ≤ 40
  hn : ns.length ≤ 64
  ne : pp ≠ pb
theorem IsPr.mono {CP : Addr} {H H' : Hp} {m : Addr} {w : Nat} {ns : List Int} {D : Nat → Nat → Prop} {dx ps pp pb : Addr} {kp kb : List (List Key × V)} (I : IsPr CP H m w ns D dx ps pp pb kp kb) (k : Same H H') : IsPr CP H' m w ns D dx ps pp pb kp kb :=
  ⟨k _ _ I.own, k _ _ I.sums, k _ _ I.prices, k _ _ I.beside, I.tab, I.hw, I.hw2, I.hn, I.ne⟩
/-- pairs of numbers -/
def encII (a : Int × Int) : PyData := .tuple [.int a.1, .int a.2]
theorem alike_II (a b : Int × Int) : PySem.W.alike (encII a) (encII b) = true := by
  unfold encII; rfl
theorem non_II (a : Int × Int) : encII a ≠ .none := fun h => nomatch h
theorem dep_II (a : Int × Int) : (encII a).depth ≤ 32 := by
  unfold encII
  simp only [PyData.depth, PyData.depthAll]; decide
theorem lt_II {a b : Int × Int} (h : PySem.W.dataLt (encII a) (encII b) = false) : b.1 ≤ a.1 := by
  unfold encII at h
  rw [PySem.W.dataLt_pair (by simp [PySem.W.alike]) (by simp [PySem.W.alike]), PySem.W.dataLt_int, PySem.W.dataLt_int] at h
  replace h : (if (a.1 == b.1) = true then (if (a.2 == b.2) = true then false else decide (a.2 < b.2)) else decide (a.1 < b.1)) = false := h
  by_cases c : a.1 = b.1
  · omega
  · rw [if_neg (by simpa using c)] at h
    have := of_decide_eq_false h
    omega
theorem min_II {K : PySem.W.Frag} {B H : Hp} {Q : VK} {p : Addr} {xs : List V} {ts : List (Int × Int)} (s : Same B H) (h : H p = some (.lst xs)) (hd : Dts B xs (ts.map encII)) (hne : 0 < ts.length)
    (q : ∀ v m, m ∈ ts → (∀ a ∈ ts, m.1 ≤ a.1) → Dt B v (encII m) → Q v H) : gMin K [.ref p] H Q :=
  min_D s h hd hne alike_II non_II dep_II fun v m hm hl hD => q v m hm (fun a ha => lt_II (hl a ha)) hD
theorem Dt.twoI {B : Hp} {v : V} {a : Int × Int} (h : Dt B v (encII a)) : ∃ p, v = .ref p ∧ B p = some (.tup [.int a.1, .int a.2]) := by
  obtain ⟨p, xs, rfl, hp, hx⟩ := h.tuple
  obtain ⟨v1, r1, rfl, h1, h2⟩ := Dts.cons' hx
  obtain ⟨v2, r2, rfl, h3, h4⟩ := Dts.cons' h2
  cases h4
  obtain rfl := h1.i
  obtain rfl := h3.i
  exact ⟨p, rfl, hp⟩
theorem cutF_len {P : Nat → Nat → Int} {e k b : Nat} : (cutF P e k b).length = e - b - 1 := by unfold cutF; rw [List.length_map, cutsN_len]
theorem cutF_mem {P : Nat → Nat → Int} {e k b : Nat} {a : Int × Int} (h : a ∈ cutF P e k b) : ∃ c, b < c ∧ c < e ∧ a = (P b c + besF P e k c, (c : Int)) := by
  obtain ⟨c, hc, rfl⟩ := List.mem_map.mp h
  have := cutsN_mem.mp hc
  exact ⟨c, this.1, this.2, rfl⟩
theorem cutF_in {P : Nat → Nat → Int} {e k b c : Nat} (h1 : b < c) (h2 : c < e) : (P b c + besF P e k c, (c : Int)) ∈ cutF P e k b := List.mem_map.mpr ⟨c, cutsN_mem.mpr ⟨h1, h2⟩, rfl⟩
theorem cutsN_take {b e i : Nat} (hi : i < e - b - 1) : (cutsN b e).take (i + 1) = (cutsN b e).take i ++ [b + 1 + i] := by
  have h : (cutsN b e)[i]? = some (b + 1 + i) := by
    unfold cutsN
    rw [List.getElem?_map, List.getElem?_range hi]; rfl
  rw [List.take_succ, h]; rfl
theorem PrT.put2 {w : Nat} {S : Nat → Nat → Int} {D : Nat → Nat → Prop} {kp kb : List (List Key × V)} (h : PrT w S D kp kb) (b e : Nat) : PrT w S D (putK kp (k2 b e) (.int (prW w S b e))) kb := fun x y d => by
  obtain ⟨h1, h2⟩ := h x y d
  refine ⟨?_, h2⟩
  rw [valV_put]
  split
  · rename_i c
    obtain ⟨rfl, rfl⟩ := k2_inj.mp c
    rfl
  · exact h1
theorem PrT.put3 {w : Nat} {S : Nat → Nat → Int} {D : Nat → Nat → Prop} {kp kb : List (List Key × V)} (h : PrT w S D kp kb) (b e k : Nat) : PrT w S D kp (putK kb (k3 b e (k + 1)) (.int (besF (prW w S) e k b))) := fun x y d => by
  obtain ⟨h1, h2⟩ := h x y d
  refine ⟨h1, fun j hj => ?_⟩
  rw [valV_put]
  split
  · rename_i c
    obtain ⟨rfl, rfl, c3⟩ := k3_inj.mp c
    obtain rfl : j = k := by omega
    rfl
  · exact h2 j hj
theorem PrT.add {w : Nat} {S : Nat → Nat → Int} {D : Nat → Nat → Prop} {kp kb : List (List Key × V)} {b e : Nat} (h : PrT w S D kp kb) (h1 : valV kp (k2 b e) = some (.int (prW w S b e))) (h2 : ∀ k, k + 2 ≤ w → valV kb (k3 b e (k + 1)) = some (.int (besF (prW w S) e k b))) :
    PrT w S (fun x y => D x y ∨ (x = b ∧ y = e)) kp kb := fun x y d => by
  rcases d with d | ⟨rfl, rfl⟩
  · exact h x y d
  · exact ⟨h1, h2⟩
/-- what follows an if told once -/
theorem ifs_cut {c : Bool} {t : TS} {N b ct : L2.St → Hp → Prop} {r : VK} {σ : L2.St} {H : Hp} (I : L2.St → Hp → Prop) (h3 : ∀ σ H, I σ H → N σ H) (h2 : c = false → I σ H) (h1 : ∀ N' : L2.St → Hp → Prop, (∀ σ H, I σ H → N' σ H) → c = true → t ⟨N', r, b, ct⟩ σ H) :
    if c = true then t ⟨N, r, b, ct⟩ σ H else N σ H := by
  cases c with
  | true => rw [if_pos rfl]; exact h1 N h3 rfl
  | false => rw [if_neg (by decide)]; exact h3 _ _ (h2 rfl)
def prsP : Nat → List Nat → List (Int × Int)
  | _, [] => []
  | b, c :: cs => ((b : Int), (c : Int)) :: prsP c cs
theorem Spl.snoc : ∀ {b c fs d}, Spl b c fs → c < d → Spl b d (fs ++ [d])
  | _, _, _, _, .one h, hd => .cons h (.one hd)
  | _, _, _, _, .cons h t, hd => .cons h (t.snoc hd)
theorem Spl.sum {P : Nat → Nat → Int} : ∀ {b c fs} {d : Nat}, Spl b c fs → sumP P b (fs ++ [d]) = sumP P b fs + P c d
  | b, c, _, d, .one h => by show P b c + (P c d + 0) = P b c + 0 + P c d; omega
  | b, _, _, d, .cons (c := c) h t => by
    show P b c + sumP P c (_ ++ [d]) = P b c + sumP P c _ + _
    rw [t.sum]; omega
theorem Spl.prs : ∀ {b c fs} {d : Nat}, Spl b c fs → prsP b (fs ++ [d]) = prsP b fs ++ [((c : Int), (d : Int))]
  | b, c, _, d, .one h => rfl
  | b, _, _, d, .cons (c := c) h t => by
    show ((b : Int), (c : Int)) :: prsP c (_ ++ [d]) = ((b : Int), (c : Int)) :: prsP c _ ++ _
    rw [t.prs]; rfl
theorem prsP_len : ∀ (b : Nat) (cs : List Nat), (prsP b cs).length = cs.length
  | _, [] => rfl
  | b, c :: cs => by show (prsP c cs).length + 1 = _; rw [prsP_len c cs]; rfl
theorem Spl.prs_lt : ∀ {b e cs}, Spl b e cs → ∀ a ∈ prsP b cs, ∃ x y : Nat, a = ((x : Int), (y : Int)) ∧ b ≤ x ∧ x < y ∧ y ≤ e
  | b, e, _, .one h, a, ha => by
    rw [List.mem_singleton.mp ha]
    exact ⟨b, e, rfl, Nat.le_refl _, h, Nat.le_refl _⟩
  | b, e, _, .cons (c := c) h t, a, ha => by
    rcases List.mem_cons.mp ha with rfl | ha
    · exact ⟨b, c, rfl, Nat.le_refl _, h, Nat.le_of_lt t.lt⟩
    · obtain ⟨x, y, h1, h2, h3, h4⟩ := t.prs_lt a ha
      exact ⟨x, y, h1, by omega, h3, h4⟩
theorem besF_le {P : Nat → Nat → Int} {e k b : Nat} : besF P e k b ≤ P b e := by
  cases k with
  | zero => exact Int.le_refl _
  | succ k => exact (leastI_le _ _).1
theorem besF_cut {P : Nat → Nat → Int} {e k b : Nat} (h : besF P e (k + 1) b < P b e) : 2 ≤ e - b ∧ ∀ m ∈ cutF P e k b, (∀ a ∈ cutF P e k b, m.1 ≤ a.1) → besF P e (k + 1) b = m.1 := by
  rw [besF] at h ⊢
  have e0 : (cutF P e k b).map (·.1) = (cutsN b e).map fun c => P b c + besF P e k c := by unfold cutF; rw [List.map_map]; rfl
  rw [← e0] at h ⊢
  rcases leastI_mem ((cutF P e k b).map (·.1)) (P b e) with g | g
  · omega
  · obtain ⟨a, ha, hx⟩ := List.mem_map.mp g
    obtain ⟨c, c1, c2, rfl⟩ := cutF_mem ha
    refine ⟨by omega, fun m hm hle => Int.le_antisymm ((leastI_le _ _).2 _ (List.mem_map.mpr ⟨m, hm, rfl⟩)) ?_⟩
    rw [← hx]
    exact hle _ ha
theorem rgI_nat (b e : Nat) : rgI b e = (List.range (e - b)).map fun i => ((b + i : Nat) : Int) := by
  unfold rgI
  rw [show ((e : Int) - (b : Int)).toNat = e - b by omega]
  exact List.map_congr_left fun i _ => by omega
theorem rgI_join {b c e : Nat} (h1 : b ≤ c) (h2 : c ≤ e) : rgI b c ++ rgI c e = rgI b e := by
  rw [rgI_nat, rgI_nat, rgI_nat, show e - b = (c - b) + (e - c) by omega, List.range_add, List.map_append, List.map_map]
  congr 1
  exact List.map_congr_left fun i _ => by show ((c + i : Nat) : Int) = ((b + (c - b + i) : Nat) : Int); omega
theorem Spl.leaves : ∀ {b e cs}, Spl b e cs → (prsP b cs).flatMap (fun a => rgI a.1 a.2) = rgI b e
  | b, e, _, .one h => by show rgI b e ++ [] = _; rw [List.append_nil]
  | b, e, _, .cons (c := c) h t => by
    show rgI b c ++ (prsP c _).flatMap (fun a => rgI a.1 a.2) = _
    rw [t.leaves, rgI_join (by omega) (Nat.le_of_lt t.lt)]
theorem prsP_sum (P : Nat → Nat → Int) : ∀ (b : Nat) (cs : List Nat), ((prsP b cs).map fun a => P a.1.toNat a.2.toNat).sum = sumP P b cs
  | _, [] => rfl
  | b, c :: cs => by
    show ((P (Int.toNat b) (Int.toNat c)) :: _).sum = P b c + sumP P c cs
    rw [List.sum_cons, ← prsP_sum P c cs]; rfl
theorem szS_sum {ns : List Int} {b : Nat} : ∀ {e : Nat}, b ≤ e → e ≤ ns.length → ((rgI b e).map (szN ns)).sum = szS ns b e
  | 0, h, _ => by
    obtain rfl : b = 0 := by omega
    unfold szS; rw [rgI_nat]; simp
  | e + 1, h, he => by
    rcases Nat.lt_or_ge e b with c | c
    · obtain rfl : b = e + 1 := by omega
      unfold szS; rw [rgI_nat]; simp
    · rw [← rgI_join c (Nat.le_succ e), rgI_one, List.map_append, List.sum_append, szS_sum c (by omega)]
      unfold szS szN
      have h1 : ns.take (e + 1) = ns.take e ++ [ns[e]'(by omega)] := by rw [List.take_succ, List.getElem?_eq_getElem (by omega)]; rfl
      rw [h1, List.sum_append, List.map_singleton, List.sum_singleton, List.sum_singleton, Int.toNat_natCast, List.getD_eq_getElem?_getD, List.getElem?_eq_getElem (by omega)]
      show _ + ns[e] = _
      omega
theorem Spl.prs_sm {b e : Nat} {cs : List Nat} (h : Spl b e cs) (h2 : 2 ≤ cs.length) : ∀ a ∈ prsP b cs, ∃ x y : Nat, a = ((x : Int), (y : Int)) ∧ b ≤ x ∧ x < y ∧ y ≤ e ∧ y - x < e - b := by
  cases h with
  | one h => rw [List.length_singleton] at h2; omega
  | @cons b c e cs h t =>
    intro a ha
    have ht := t.lt
    rcases List.mem_cons.mp ha with rfl | ha
    · exact ⟨b, c, rfl, Nat.le_refl _, h, by omega, by omega⟩
    · obtain ⟨x, y, h1, h2, h3, h4⟩ := t.prs_lt a ha
      exact ⟨x, y, h1, by omega, h3, h4, by omega⟩
theorem costL_one (g : Int → Int) (t : PT) : PT.costL g [t] = t.cost g := by
  rw [costL_sum]; simp
theorem leavesL_one (t : PT) : PT.leavesL [t] = t.leaves := by rw [leavesL_cons, leavesL_nil, List.append_nil]
theorem IsPr.weak {CP : Addr} {H : Hp} {m : Addr} {w : Nat} {ns : List Int} {D D' : Nat → Nat → Prop} {dx ps pp pb : Addr} {kp kb : List (List Key × V)} (I : IsPr CP H m w ns D dx ps pp pb kp kb) (h : ∀ a c, D' a c → D a c) : IsPr CP H m w ns D' dx ps pp pb kp kb :=
  ⟨I.own, I.sums, I.prices, I.beside, fun a c d => I.tab a c (h a c d), I.hw, I.hw2, I.hn, I.ne⟩
/-- the stretches whose price is told: all less wide than so, and those as wide that begin before -/
def DonP (n wide begin : Nat) (a c : Nat) : Prop := a < c ∧ c ≤ n ∧ (c - a < wide ∨ (c - a = wide ∧ a < begin))
theorem preS_last (ns : List Int) (i : Nat) : atI ((preS (ns.take i)).map V.int) (-1) = some (.int (ns.take i).sum) := by
  have h : preS (ns.take i) = ((List.range (ns.take i).length).map fun j => ((ns.take i).take j).sum) ++ [(ns.take i).sum] := by
    unfold preS
    rw [List.range_succ, List.map_append, List.map_singleton, List.take_length]
  rw [h, List.map_append]
  exact atI_last
theorem preS_step {ns : List Int} {i : Nat} {x : Int} (h : ns[i]? = some x) : preS (ns.take (i + 1)) = preS (ns.take i) ++ [(ns.take i).sum + x] := by
  rw [List.take_succ, h]
  exact preS_snoc _ _
end G

namespace G
open PySem PySem.Spec PyProof.Rows L2 TL RZ

/-! ### all cuts of a stretch, told one by one -/
def stepC (w : Nat) (found : List (List Nat)) (p : Nat) : List (List Nat) := found ++ ((found.filter fun c => decide (c.length < w)).map fun c => c ++ [p])
def allC (w b : Nat) (ps : List Nat) : List (List Nat) := ps.foldl (stepC w) [[b]]
def cutsA (w b e : Nat) : List (List Nat) := (allC w b (cutsN b e)).filter fun c => decide (1 < c.length)
theorem allC_snoc (w b : Nat) (ps : List Nat) (p : Nat) : allC w b (ps ++ [p]) = stepC w (allC w b ps) p := by unfold allC; rw [List.foldl_append]; rfl
theorem allC_len (w b : Nat) : ∀ ps : List Nat, ∀ f : List (List Nat), (ps.foldl (stepC w) f).length ≤ f.length * 2 ^ ps.length
  | [], f => by show f.length ≤ f.length * 1; omega
  | p :: ps, f => by
    have h := allC_len w b ps (stepC w f p)
    have h1 : (stepC w f p).length ≤ f.length * 2 := by
      unfold stepC
      rw [List.length_append, List.length_map]
      have := List.length_filter_le (fun c : List Nat => decide (c.length < w)) f
      omega
    show (ps.foldl (stepC w) (stepC w f p)).length ≤ f.length * 2 ^ (ps.length + 1)
    rw [Nat.pow_succ]
    have h2 : (stepC w f p).length * 2 ^ ps.length ≤ f.length * 2 * 2 ^ ps.length := Nat.mul_le_mul_right _ h1
    have h3 : f.length * (2 ^ ps.length * 2) = f.length * 2 * 2 ^ ps.length := by rw [Nat.mul_assoc, Nat.mul_comm (2 ^ ps.length) 2]
    omega
theorem cutsN_succ {b e : Nat} (h : b < e) : cutsN b (e + 1) = cutsN b e ++ [e] := by
  unfold cutsN
  rw [show e + 1 - b - 1 = (e - b - 1) + 1 by omega, List.range_succ, List.map_append, List.map_singleton, show b + 1 + (e - b - 1) = e by omega]
/-- rising, from b on, below e -/
structure UpC (w b e : Nat) (c : List Nat) : Prop where
  hd : ∃ t, c = b :: t
  up : c.Pairwise (· < ·)
  lt : ∀ x ∈ c, x < e
  len : c.length ≤ w
theorem allC_mem {w b : Nat} (hw : 1 ≤ w) : ∀ (k : Nat) (c : List Nat), c ∈ allC w b (cutsN b (b + 1 + k)) ↔ UpC w b (b + 1 + k) c
  | 0, c => by
    have e0 : cutsN b (b + 1 + 0) = [] := by unfold cutsN; rw [show b + 1 + 0 - b - 1 = 0 by omega]; rfl
    rw [e0]
    show c ∈ [[b]] ↔ _
    rw [List.mem_singleton]
    constructor
    · rintro rfl
      exact ⟨⟨[], rfl⟩, List.pairwise_singleton _ _, fun x hx => by rw [List.mem_singleton.mp hx]; omega, hw⟩
    · rintro ⟨⟨t, rfl⟩, h2, h3, h4⟩
      cases t with
      | nil => rfl
      | cons a t =>
        have h5 := h3 a (List.mem_cons_of_mem _ List.mem_cons_self)
        have h6 := (List.pairwise_cons.mp h2).1 a List.mem_cons_self
        omega
  | k + 1, c => by
    have ih := fun c => allC_mem (b := b) hw k c
    rw [show b + 1 + (k + 1) = (b + 1 + k) + 1 by omega, cutsN_succ (by omega), allC_snoc]
    generalize he : b + 1 + k = e at *
    unfold stepC
    rw [List.mem_append, ih c, List.mem_map]
    constructor
    · rintro (h | ⟨c', hc', rfl⟩)
      · exact ⟨h.hd, h.up, fun x hx => by have := h.lt x hx; omega, h.len⟩
      · obtain ⟨h1, h2⟩ := List.mem_filter.mp hc'
        have h := (ih c').mp h1
        have h2 := of_decide_eq_true h2
        obtain ⟨t, rfl⟩ := h.hd
        exact ⟨⟨t ++ [e], rfl⟩, List.pairwise_append.mpr ⟨h.up, List.pairwise_singleton _ _, fun x hx y hy => by rw [List.mem_singleton.mp hy]; exact h.lt x hx⟩, fun x hx => by
          rcases List.mem_append.mp hx with hx | hx
          · have := h.lt x hx; omega
          · rw [List.mem_singleton.mp hx]; omega, by rw [List.length_append, List.length_singleton]; omega⟩
    · intro h
      have hne : c ≠ [] := by obtain ⟨t, rfl⟩ := h.hd; exact fun z => nomatch z
      have hc := List.dropLast_concat_getLast hne
      generalize c.dropLast = i at hc
      generalize c.getLast hne = z at hc
      subst hc
      obtain ⟨u1, u2, u3⟩ := List.pairwise_append.mp h.up
      have hz := h.lt z (List.mem_append_right _ (List.mem_singleton.mpr rfl))
      by_cases c1 : z = e
      · subst c1
        refine .inr ⟨i, List.mem_filter.mpr ⟨(ih i).mpr ?_, decide_eq_true (by have := h.len; rw [List.length_append, List.length_singleton] at this; omega)⟩, rfl⟩
        refine ⟨?_, u1, fun x hx => u3 x hx z (List.mem_singleton.mpr rfl), by have := h.len; rw [List.length_append] at this; omega⟩
        obtain ⟨t, ht⟩ := h.hd
        cases i with
        | nil =>
          rw [List.nil_append] at ht
          have h6 := (List.cons.inj ht).1
          omega
        | cons a i =>
          rw [List.cons_append] at ht
          rw [(List.cons.inj ht).1]; exact ⟨i, rfl⟩
      · refine .inl ⟨h.hd, h.up, fun x hx => ?_, h.len⟩
        rcases List.mem_append.mp hx with hx | hx
        · have := u3 x hx z (List.mem_singleton.mpr rfl); omega
        · rw [List.mem_singleton.mp hx]; omega
theorem UpC.spl {w e : Nat} : ∀ {b : Nat} {t : List Nat}, UpC w b e (b :: t) → Spl b e (t ++ [e])
  | b, [], h => .one (h.lt b List.mem_cons_self)
  | b, a :: t, h => by
    obtain ⟨h1, h2⟩ := List.pairwise_cons.mp h.up
    refine .cons (h1 a List.mem_cons_self) (UpC.spl (w := w) ⟨⟨t, rfl⟩, h2, fun x hx => h.lt x (List.mem_cons_of_mem _ hx), ?_⟩)
    have := h.len
    rw [List.length_cons] at this
    omega
theorem Spl.upc : ∀ {b e : Nat} {cs : List Nat}, Spl b e cs → ∃ t, cs = t ++ [e] ∧ (b :: t).Pairwise (· < ·) ∧ ∀ x ∈ b :: t, x < e
  | b, e, _, .one h => ⟨[], rfl, List.pairwise_singleton _ _, fun x hx => by rw [List.mem_singleton.mp hx]; exact h⟩
  | b, e, _, .cons (c := c) h s => by
    obtain ⟨t, rfl, h2, h3⟩ := s.upc
    refine ⟨c :: t, rfl, List.pairwise_cons.mpr ⟨fun x hx => ?_, h2⟩, fun x hx => ?_⟩
    · rcases List.mem_cons.mp hx with rfl | hx
      · exact h
      · exact Nat.lt_trans h ((List.pairwise_cons.mp h2).1 x hx)
    · rcases List.mem_cons.mp hx with rfl | hx
      · exact Nat.lt_trans h (h3 c List.mem_cons_self)
      · exact h3 x hx
/-- what a cut costs: neighbours' prices -/
def besC (P : Nat → Nat → Int) (e : Nat) (c : List Nat) : Int := sumP P (c.headD 0) (c.tail ++ [e])
theorem cutsA_up {w b e : Nat} (hw : 1 ≤ w) (hb : b < e) {c : List Nat} : c ∈ cutsA w b e ↔ UpC w b e c ∧ 1 < c.length := by
  obtain ⟨k, rfl⟩ : ∃ k, e = b + 1 + k := ⟨e - b - 1, by omega⟩
  unfold cutsA
  rw [List.mem_filter, allC_mem hw, decide_eq_true_eq]
/-- the price by all cuts -/
theorem prW_all {w b e : Nat} {S : Nat → Nat → Int} (hw : 2 ≤ w) (hb : b < e) {m : Int} (h1 : ∃ c ∈ cutsA w b e, m = besC (prW w S) e c) (h2 : ∀ c ∈ cutsA w b e, m ≤ besC (prW w S) e c) : prW w S b e = S b e + m := by
  obtain ⟨c, hc, rfl⟩ := h1
  obtain ⟨hu, hl⟩ := (cutsA_up (by omega) hb).mp hc
  obtain ⟨t, rfl⟩ := hu.hd
  have hs := hu.spl
  have hwide : 2 ≤ e - b := by
    cases t with
    | nil => exact absurd hl (by simp)
    | cons a t =>
      have g1 := (List.pairwise_cons.mp hu.up).1 a List.mem_cons_self
      have g2 := hu.lt a (List.mem_cons_of_mem _ List.mem_cons_self)
      omega
  refine ((prW_ok hw S e b e hb (Nat.le_refl _)).2 hwide).eq ⟨?_, ?_⟩
  · have hl2 := hu.len
    rw [List.length_cons] at hl hl2
    exact ⟨t ++ [e], hs, by rw [List.length_append, List.length_singleton]; omega, by rw [List.length_append, List.length_singleton]; omega, rfl⟩
  · rintro x ⟨cs, g1, g2, g3, rfl⟩
    obtain ⟨t', rfl, g4, g5⟩ := g1.upc
    rw [List.length_append, List.length_singleton] at g2 g3
    have := h2 (b :: t') ((cutsA_up (by omega) hb).mpr ⟨⟨⟨t', rfl⟩, g4, g5, by rw [List.length_cons]; omega⟩, by rw [List.length_cons]; omega⟩)
    show S b e + _ ≤ S b e + sumP (prW w S) b (t' ++ [e])
    have h7 : besC (prW w S) e (b :: t') = sumP (prW w S) b (t' ++ [e]) := rfl
    omega
theorem cutsA_nil {w b e : Nat} (hw : 2 ≤ w) (hb : b < e) (h : cutsA w b e = []) : e - b ≤ 1 := by
  rcases Nat.lt_or_ge 1 (e - b) with c | c
  · have : [b, b + 1] ∈ cutsA w b e := (cutsA_up (by omega) hb).mpr ⟨⟨⟨_, rfl⟩, List.pairwise_cons.mpr ⟨fun x hx => by rw [List.mem_singleton.mp hx]; omega, List.pairwise_singleton _ _⟩, fun x hx => by
      simp only [List.mem_cons, List.not_mem_nil, or_false] at hx
      omega, hw⟩, Nat.lt_succ_self 1⟩
    rw [h] at this
    exact absurd this (fun z => nomatch z)
  · exact c
def encCu (c : List Nat) : PyData := .list (c.map fun (i : Nat) => PyData.int (i : Int))
theorem Dt.cutU {B : Hp} {v : V} {c : List Nat} (h : Dt B v (encCu c)) : ∃ p, v = .ref p ∧ B p = some (.lst (c.map fun (i : Nat) => V.int (i : Int))) := by
  obtain ⟨p, xs, rfl, hp, hx⟩ := h.list
  refine ⟨p, rfl, ?_⟩
  have : xs = c.map fun (i : Nat) => V.int (i : Int) := by
    clear hp h
    induction c generalizing xs with
    | nil => cases hx; rfl
    | cons a c ih =>
      obtain ⟨v1, r1, rfl, h1, h2⟩ := Dts.cons' hx
      rw [h1.i, ih r1 h2]; rfl
  rw [← this]; exact hp
theorem dt_cutU {B : Hp} {p : Addr} {c : List Nat} (h : B p = some (.lst (c.map fun (i : Nat) => V.int (i : Int)))) : Dt B (.ref p) (encCu c) := by
  refine .lst h ?_
  clear h
  induction c with
  | nil => exact .nil
  | cons a c ih => exact .cons (.int _) ih
end G

namespace G
open PySem PySem.Spec PyProof.Rows L2 TL RZ
/-! ### all stretches, in order, with their prices -/
def strB (n b : Nat) : List (Nat × Nat) := (List.range (n - b)).map fun k => (b, b + 1 + k)
def strN (n i : Nat) : List (Nat × Nat) := (List.range i).flatMap (strB n)
theorem strN_succ (n i : Nat) : strN n (i + 1) = strN n i ++ strB n i := by
  unfold strN
  rw [List.range_succ, List.flatMap_append, List.flatMap_cons, List.flatMap_nil, List.append_nil]
def encTr (P : Nat → Nat → Int) (a : Nat × Nat) : PyData := .tuple [.int (a.1 : Int), .int (a.2 : Int), .int (P a.1 a.2)]
def encPr (a : Nat × Nat) : PyData := .tuple [.int (a.1 : Int), .int (a.2 : Int)]
theorem strB_take {n b j : Nat} (h : j ≤ n - b) : (strB n b).take j = (List.range j).map fun k => (b, b + 1 + k) := by
  unfold strB
  rw [← List.map_take, List.take_range, Nat.min_eq_left h]
theorem strB_len {n b : Nat} : (strB n b).length = n - b := by unfold strB; rw [List.length_map, List.length_range]
theorem strN_mem {n i : Nat} {a : Nat × Nat} : a ∈ strN n i ↔ a.1 < i ∧ a.1 < a.2 ∧ a.2 ≤ n := by
  unfold strN strB
  rw [List.mem_flatMap]
  constructor
  · rintro ⟨b, hb, ha⟩
    obtain ⟨k, hk, rfl⟩ := List.mem_map.mp ha
    have := List.mem_range.mp hb
    have := List.mem_range.mp hk
    exact ⟨by show b < i; omega, by show b < b + 1 + k; omega, by show b + 1 + k ≤ n; omega⟩
  · rintro ⟨h1, h2, h3⟩
    exact ⟨a.1, List.mem_range.mpr h1, List.mem_map.mpr ⟨a.2 - a.1 - 1, List.mem_range.mpr (by omega), by
      show (a.1, a.1 + 1 + (a.2 - a.1 - 1)) = a
      rw [show a.1 + 1 + (a.2 - a.1 - 1) = a.2 by omega]⟩⟩
theorem strN_len (n : Nat) : ∀ i, (strN n i).length ≤ n * i
  | 0 => Nat.zero_le _
  | i + 1 => by
    have := strN_len n i
    rw [strN_succ, List.length_append, strB_len, Nat.mul_succ]; omega
end G

namespace G
open PySem PySem.Spec PyProof.Rows L2 TL RZ

/-! ### dict(xs), xs pairs whose keys are tuples -/
def mergeT (kvs more : List (List Key × V)) : List (List Key × V) := more.foldl (fun acc kv => putK acc kv.1 kv.2) kvs
theorem kt_merge {H : Hp} : ∀ {more : List (List Key × V)} {ps : List (List Key × Addr × Value)} {kvs : List (List Key × V)} {xs : List (List Key × Addr × Value)}, KT H more ps → KT H kvs xs → KT H (mergeT kvs more) (PySem.storedAllH xs ps)
  | [], _, _, _, .nil, r => r
  | p :: more, q :: ps, kvs, xs, .cons h t, r => by
    obtain ⟨h1, h2, h3⟩ := h
    have r2 := r.put p.1 h2 h3
    have e : PySem.storedAllH xs (q :: ps) = PySem.storedAllH (storedH xs p.1 q.2.1 q.2.2) ps := by rw [h1]; rfl
    rw [e]
    show KT H (mergeT (putK kvs p.1 p.2) more) _
    exact kt_merge t r2
theorem length_mergeT : ∀ (more kvs : List (List Key × V)), (mergeT kvs more).length ≤ kvs.length + more.length
  | [], kvs => Nat.le_refl _
  | p :: more, kvs => by
    have h1 := length_mergeT more (putK kvs p.1 p.2)
    have h2 := length_putK kvs p.1 p.2
    rw [List.length_cons]
    show (mergeT (putK kvs p.1 p.2) more).length ≤ _
    omega
theorem key_of' {P : Program} {w : World} {H : Hp} {h h' : Heap} {a : Addr} {ks : List Key} (ok : HOk P w H h) (e : H a = some (.tup (ks.map kV))) (k : ∀ o, h.get? a = some o → h'.get? a = some o) : (tupleKind (mixKind P w)).is h' ks a := by
  obtain ⟨_, its, r, o, h1, h2, n, h3⟩ := (show ObjOk P w H h a (.tup (ks.map kV)) from ok a _ e)
  exact ⟨o, its.toArray, n, k _ h1, h2, h3, by simpa using items_are r⟩
theorem key_there {P : Program} {w : World} {H : Hp} {h : Heap} {a : Addr} {ks : List Key} (ok : HOk P w H h) (e : H a = some (.tup (ks.map kV))) : ∃ o, h.get? a = some o := by
  obtain ⟨_, its, r, o, h1, h2, n, h3⟩ := (show ObjOk P w H h a (.tup (ks.map kV)) from ok a _ e)
  exact ⟨o, h1⟩
def PrT2 (K : PySem.W.Frag) (H : Hp) : List Addr → List (List Key × V) → Prop := Paired fun p kv => ∃ b, SqT K H p [.ref b, kv.2] ∧ H b = some (.tup (kv.1.map kV))
theorem pairs_ofT {X : Cx} {pins : List (Addr × Obj)} {σ : L2.St} {H : Hp} {s : Shared} (I : Inv X pins σ H s) : ∀ {ps : List Addr} {kvs : List (List Key × V)}, PrT2 X.K H ps kvs →
    ∃ prs : List (List Key × Addr × Value), KT H kvs prs ∧ prs.length = ps.length ∧ ∀ (j : Nat) (q : List Key × Addr × Value), prs[j]? = some q → ∃ T, ps[j]? = some T ∧ IsTup s.heap T #[.ref q.2.1, q.2.2]
  | _, _, .nil => ⟨[], .nil, rfl, fun j q e => by simp at e⟩
  | _, _, .cons (a := p) (b := kv) h t => by
    obtain ⟨prs, r, hl, hp⟩ := pairs_ofT I t
    obtain ⟨b, h1, h2⟩ := h
    obtain ⟨its, rv, ht, _⟩ := I.tuple h1
    obtain ⟨u, y, ei, ru, ry⟩ := vals2 rv
    subst ei
    cases (show u = Value.ref b from ru)
    refine ⟨(kv.1, b, y) :: prs, .cons ⟨rfl, h2, ry⟩ r, by rw [List.length_cons, List.length_cons, hl], fun j q e => ?_⟩
    cases j with
    | zero =>
      have e' : (kv.1, b, y) = q := Option.some.inj e
      subst e'
      exact ⟨p, rfl, ht⟩
    | succ j =>
      obtain ⟨T, e1, e2⟩ := hp j q (by simpa using e)
      exact ⟨T, by simpa using e1, e2⟩
theorem kt_mem {H : Hp} : ∀ {kvs : List (List Key × V)} {xs : List (List Key × Addr × Value)}, KT H kvs xs → ∀ x ∈ xs, H x.2.1 = some (.tup (x.1.map kV))
  | _, _, .nil, _, h => nomatch h
  | _, _, .cons h t, x, hx => by
    rcases List.mem_cons.mp hx with rfl | hx
    · obtain ⟨h1, h2, _⟩ := h
      rw [← h1]; exact h2
    · exact kt_mem t x hx
def rDictT (K : PySem.W.Frag) : RC := fun xs H Q => ∃ (a : Addr) (ps : List Addr) (kvs : List (List Key × V)), xs = [.ref a] ∧ SqL K H a (ps.map V.ref) ∧ PrT2 K H ps kvs ∧ ∀ p, H p = none → Q (.ref p) (upd H p (.dT (mergeT [] kvs)))
theorem call_dictT {X : Cx} (hcalm : X.calm = true) (hu : X.A.units + 64 < cLine) : CallR X (.type "dict") (rDictT X.K) := by
  intro pins s σ H xs us Q I r q
  obtain ⟨a, ps, kvs, ex, hq, hp, q⟩ := q
  subst ex
  obtain ⟨u, eu, rx⟩ := vals1 r
  subst eu
  cases rx
  obtain ⟨its, rv, pl, hz⟩ := I.list hq
  have ei := refs_at rv
  subst ei
  rw [List.length_map] at hz
  obtain ⟨prs, rel, hl, hpr⟩ := pairs_ofT I hp
  obtain ⟨o, n, ho, hc, hd, hdat⟩ := pl
  let vs : List (Value × Value) := prs.map fun q => (.ref q.2.1, q.2.2)
  have hvl : vs.length = prs.length := List.length_map ..
  have P := PySem.PairArg.list (prog := X.prog) (w := X.w) a (ps.map Value.ref).toArray (fun j => ps.getD j 0) vs
  refine PySem.call_dict_pairsH (knd := tupleKind (mixKind X.prog X.w)) (ps := prs) P (I.ok.hd hcalm) (show X.A.units + 1 + 1 < cLine by omega) ⟨⟨o, n, ho, hc, hd, hdat⟩, ?_⟩ ?_ ?_ (by rw [hvl, hl]; exact hz) fun h' tk hd' k => ?_
  · refine ⟨by simp [hvl, hl], fun j k v hj => ?_⟩
    obtain ⟨q', hq', e'⟩ := Option.map_eq_some_iff.mp (by rw [← List.getElem?_map]; exact hj : (prs[j]?).map (fun q => ((Value.ref q.2.1, q.2.2) : Value × Value)) = some (k, v))
    obtain ⟨rfl, rfl⟩ := Prod.mk.inj e'
    obtain ⟨T, e1, e2⟩ := hpr j q' hq'
    have e3 : ps.getD j 0 = T := by rw [List.getD_eq_getElem?_getD, e1]; rfl
    refine ⟨by simp [e1], ?_⟩
    show PySem.PairAt s.heap (ps.getD j 0) _ _
    rw [e3]
    exact .inl e2
  · refine ⟨hvl.symm, fun i key v hrel => ?_⟩
    obtain ⟨q', hq', e'⟩ := Option.map_eq_some_iff.mp (by rw [← List.getElem?_map]; exact hrel : (prs[i]?).map (fun q => ((Value.ref q.2.1, q.2.2) : Value × Value)) = some (key, v))
    obtain ⟨rfl, rfl⟩ := Prod.mk.inj e'
    exact ⟨q'.1, q'.2.1, hq', rfl⟩
  · intro h' hk x hx
    have hx2 := kt_mem rel x hx
    refine key_of' I.hok hx2 fun o' e => hk _ o' (Nat.ne_of_lt (Heap.lt_size e)) (fun z => nomatch z) e
  · have hm : (s.heap.objs.size == sysModules) = false := beq_eq_false_iff_ne.mpr (Nat.ne_of_gt I.big)
    have hlen : (mergeT [] kvs).length ≤ sizeLine := by
      refine Nat.le_trans (length_mergeT kvs []) ?_
      rw [List.length_nil, Nat.zero_add, Paired.length rel, hl]
      exact hz
    have k' : ∀ b o, s.heap.get? b = some o → h'.get? b = some o := fun b o e => k b o (fun z => nomatch z) e
    have hfr : H s.heap.objs.size = none := I.hok.fresh (Nat.le_refl _)
    refine ⟨.ref s.heap.objs.size, upd H s.heap.objs.size (.dT (mergeT [] kvs)), I.laid (t' := tk) k' (Nat.le_refl _) ?_, rfl, q _ hfr⟩
    obtain ⟨o', es, ep, w1, w2, w3, w4, _, w5⟩ := hd'
    refine ⟨hlen, hm, _, (kt_merge rel .nil).keeps fun c ys ec => ?_, o', es, ep, w1, w2, w3, w4, w5⟩
    rw [upd_ne (fun z => by rw [z, hfr] at ec; cases ec)]
    exact ec
def gDictT (K : PySem.W.Frag) : RC := fun xs H Q => gDict K xs H Q ∨ rDictT K xs H Q
theorem oDictT {X : Cx} {K : PySem.W.Frag} (hc : X.calm = true) (hu : X.A.units + 64 < cLine) (hK : X.K = K := by rfl) : CallR X (.type "dict") (gDictT K) := by subst hK; exact (oDict hc).or (call_dictT hc hu)
/-- what a dict of pairs holds: the last one counts -/
theorem valV_mergeT {f : List Key → Option V} {k : List Key} : ∀ (more kvs : List (List Key × V)), (∀ kv ∈ more, f kv.1 = some kv.2) → ((∃ kv ∈ more, kv.1 = k) → valV (mergeT kvs more) k = f k) ∧ ((∀ kv ∈ more, kv.1 ≠ k) → valV (mergeT kvs more) k = valV kvs k)
  | [], kvs, _ => ⟨fun ⟨_, h, _⟩ => (nomatch h), fun _ => rfl⟩
  | p :: more, kvs, h => by
    obtain ⟨i1, i2⟩ := valV_mergeT (k := k) more (putK kvs p.1 p.2) (fun kv hk => h kv (List.mem_cons_of_mem _ hk))
    refine ⟨fun g => ?_, fun g => ?_⟩
    · show valV (mergeT (putK kvs p.1 p.2) more) k = _
      by_cases c : ∃ kv ∈ more, kv.1 = k
      · exact i1 c
      · rw [i2 fun kv hk e => c ⟨kv, hk, e⟩, valV_put]
        obtain ⟨kv, hk, e⟩ := g
        rcases List.mem_cons.mp hk with rfl | hk
        · rw [if_pos e.symm, ← e, h kv List.mem_cons_self]
        · exact absurd ⟨kv, hk, e⟩ c
    · show valV (mergeT (putK kvs p.1 p.2) more) k = _
      rw [i2 fun kv hk => g kv (List.mem_cons_of_mem _ hk), valV_put, if_neg fun e => g p List.mem_cons_self e.symm]
/-- dict([((b, e), x), ..]) -/
def encP2 (P : Nat → Nat → Int) (a : Nat × Nat) : PyData := .tuple [.tuple [.int (a.1 : Int), .int (a.2 : Int)], .int (P a.1 a.2)]
theorem prT2_of {K : PySem.W.Frag} {B H : Hp} {P : Nat → Nat → Int} (s : Same B H) : ∀ {ws : List V} {l : List (Nat × Nat)}, Dts B ws (l.map (encP2 P)) → ∃ ps : List Addr, ws = ps.map V.ref ∧ PrT2 K H ps (l.map fun a => (k2 a.1 a.2, V.int (P a.1 a.2)))
  | ws, [], h => by cases h; exact ⟨[], rfl, .nil⟩
  | ws, a :: l, h => by
    obtain ⟨v, r, rfl, h1, h2⟩ := Dts.cons' h
    obtain ⟨ps, rfl, hp⟩ := prT2_of s h2
    obtain ⟨p, xs, rfl, hp1, hx⟩ := h1.tuple
    obtain ⟨v1, r1, rfl, g1, g2⟩ := Dts.cons' hx
    obtain ⟨v2, r2, rfl, g3, g4⟩ := Dts.cons' g2
    cases g4
    obtain rfl := g3.i
    obtain ⟨p2, ys, rfl, hp2, hy⟩ := g1.tuple
    obtain ⟨u1, q1, rfl, f1, f2⟩ := Dts.cons' hy
    obtain ⟨u2, q2, rfl, f3, f4⟩ := Dts.cons' f2
    cases f4
    obtain rfl := f1.i
    obtain rfl := f3.i
    exact ⟨p :: ps, rfl, .cons ⟨p2, .inl (.inl (s _ _ hp1)), s _ _ hp2⟩ hp⟩
theorem dict_P2 {K : PySem.W.Frag} {B H : Hp} {Q : VK} {p : Addr} {ws : List V} {l : List (Nat × Nat)} {P : Nat → Nat → Int} (s : Same B H) (h : H p = some (.lst ws)) (hd : Dts B ws (l.map (encP2 P)))
    (q : ∀ kp, kp.length ≤ l.length → (∀ b e, valV kp (k2 b e) = if (b, e) ∈ l then some (.int (P b e)) else none) → AtNew Q (.dT kp) H) : gDictT K [.ref p] H Q := by
  obtain ⟨ps, rfl, hp⟩ := prT2_of (K := K) s hd
  refine .inr ⟨p, ps, _, rfl, .inl (.inl h), hp, q _ ?_ fun b e => ?_⟩
  · have := length_mergeT (l.map fun a => (k2 a.1 a.2, V.int (P a.1 a.2))) []
    rw [List.length_map, List.length_nil] at this
    omega
  · have hf : ∀ kv ∈ l.map (fun a : Nat × Nat => ((k2 a.1 a.2, V.int (P a.1 a.2)) : List Key × V)), (fun k : List Key => (l.find? fun a => decide (k2 a.1 a.2 = k)).map fun a => V.int (P a.1 a.2)) kv.1 = some kv.2 := by
      intro kv hk
      obtain ⟨a, ha, rfl⟩ := List.mem_map.mp hk
      show ((l.find? fun a' => decide (k2 a'.1 a'.2 = k2 a.1 a.2)).map fun a => V.int (P a.1 a.2)) = some (V.int (P a.1 a.2))
      cases hz : l.find? fun a' => decide (k2 a'.1 a'.2 = k2 a.1 a.2) with
      | none =>
        have := List.find?_eq_none.mp hz a ha
        exact absurd (decide_eq_true rfl) this
      | some a' =>
        have h1 := List.find?_some hz
        obtain ⟨e1, e2⟩ := k2_inj.mp (of_decide_eq_true h1)
        show some (V.int (P a'.1 a'.2)) = _
        rw [e1, e2]
    obtain ⟨i1, i2⟩ := valV_mergeT (f := fun k : List Key => (l.find? fun a => decide (k2 a.1 a.2 = k)).map fun a => V.int (P a.1 a.2)) (k := k2 b e) _ [] hf
    by_cases c : (b, e) ∈ l
    · rw [if_pos c, i1 ⟨(k2 b e, V.int (P b e)), List.mem_map.mpr ⟨(b, e), c, rfl⟩, rfl⟩]
      exact hf (k2 b e, V.int (P b e)) (List.mem_map.mpr ⟨(b, e), c, rfl⟩)
    · rw [if_neg c, i2 ?_, valV_nil]
      intro kv hk z
      obtain ⟨a, ha, rfl⟩ := List.mem_map.mp hk
      obtain ⟨e1, e2⟩ := k2_inj.mp z
      exact c (by rw [← e1, ← e2]; exact ha)
end G
namespace G
open PySem PySem.Spec PyProof.Rows L2 TL RZ
/-! ### {(a, b): v} -/
section
open PySem
variable {prog : Program} {w : World} {K : Type} [DecidableEq K] {knd : HeapKind prog w K} {A : Around} {E : Value → Shared → Prop} {s : Shared}
theorem wpAny_Dict_pairsS {env : Env} {keys : List (Option Expr)} {values : List Expr} {pos : Pos} {pairs : List (Sem Value × Sem Value)} {Q : Value → Shared → Prop} (hu : knd.room A)
    (hshape : (evalEachOpt keys env).zip ((evalEach values env).map fun v => do let x ← v; standAt pos; pure x) = pairs.map fun p => (some p.1, p.2)) (h0 : pairs ≠ []) (hlen : pairs.length ≤ 15)
    (h : wpAny (model prog w) A (evalPairs pairs) (fun vs s₁ => ∃ ps, CarriesH knd s₁.heap vs ps ∧ s₁.heap.DictOfH knd s.heap.objs.size [] ∧
      ∀ h' tk, h'.DictOfH knd s.heap.objs.size (storedAllH [] ps) → Heap.SameBut s.heap.objs.size s₁.heap h' → Q (.ref s.heap.objs.size) { s₁ with heap := h', toks := tk }) E
      { s with heap := s.heap.push { cls := .type "dict", data := .dict #[] } }) :
    wpAny (model prog w) A (eval (.Dict keys values pos) env) Q E s := by
  rw [arm_eval_Dict, hshape, dictDisplay_pairs pairs h0 (by omega)]
  exact wpAny_bind (wpAny_standAt (wpAny_bind (wpAny_subDictH (knd := knd) (Q := fun d s' => wpAny (model prog w) A (pure (Value.ref d)) Q E s') hu hlen
    (wpAny_mono h (fun vs s₁ h₁ => by obtain ⟨ps, hc, hm, hq⟩ := h₁; exact ⟨ps, hc, hm, fun h' tk a b => wpAny_pure (hq h' tk a b)⟩) fun _ _ e => e))))
end
/-- one pair, its key a tuple -/
def tDispT (tk tv : TE) : TE := fun σ H Q => ∀ p, H p = none → tk σ (upd H p (.dT [])) fun x H1 => tv σ H1 fun y H2 => ∃ (b : Addr) (k : List Key), x = .ref b ∧ H2 b = some (.tup (k.map kV)) ∧ H2 p = some (.dT []) ∧ Q (.ref p) (upd H2 p (.dT [(k, y)]))
def DispQ (Q : VK) (p : Addr) : List (V × V) → Hp → Prop
  | [(x, y)], H2 => ∃ (b : Addr) (k : List Key), x = .ref b ∧ H2 b = some (.tup (k.map kV)) ∧ H2 p = some (.dT []) ∧ Q (.ref p) (upd H2 p (.dT [(k, y)]))
  | _, _ => False
theorem pe_dispT {X : Cx} {pos : Pos} {k v : Expr} {tk tv : TE} (hk : PE X k tk) (hv : PE X v tv) (hu : X.A.units + 64 < cLine) : PE X (.Dict [some k] [v] pos) (tDispT tk tv) := by
  refine ⟨fun pins s σ H Q I q => ?_⟩
  have hn := I.hok.fresh (Nat.le_refl s.heap.objs.size)
  have I1 := I.laid (a := s.heap.objs.size) (o := .dT []) (h' := s.heap.push { cls := .type "dict", data := .dict #[] }) (t' := s.toks) (fun _ _ q => Heap.get?_push_of_some _ q) (Nat.le_refl _) (dt_empty s.heap I.big)
  have hl := pairTrees_length [some k] [v] X.env pos rfl rfl
  refine wpAny_Dict_pairsS (knd := tupleKind (mixKind X.prog X.w)) (pairs := pairTrees [some k] [v] X.env pos) (show X.A.units < cLine by omega) (zip_pairTrees [some k] [v] X.env pos rfl rfl) (fun z => by rw [z] at hl; cases hl) (by rw [hl]; exact (by decide : (1 : Nat) ≤ 15)) ?_
  refine thn ((pps_cons hk hv (pps_nil (pos := pos))).run pins _ σ _ (DispQ Q s.heap.objs.size) I1 (q _ hn)) ?_
  rintro ws s2 ⟨ps, H2, I2, rel, q2⟩
  match ps, rel, q2 with
  | [(x, y)], rel, ⟨b, k, ex, hb, hp, q2⟩ =>
    cases rel with
    | @cons _ z _ zs h t =>
      cases t
      obtain ⟨z1, z2⟩ := z
      obtain ⟨r1, r2⟩ := h
      dsimp only at r1 r2 ex
      subst ex
      cases (show z1 = Value.ref b from r1)
      obtain ⟨zz, hd, xs0, r0, dd⟩ := dt_of I2.hok hp
      cases r0
      refine ⟨[(k, b, z2)], ⟨rfl, rfl, key_of I2.hok hb, trivial⟩, dd, fun h' tk dd' hs => ⟨.ref s.heap.objs.size, _, ?_, rfl, q2⟩⟩
      obtain ⟨o', es, ep, w1, w2, w3, w4, _, w5⟩ := dd'
      refine d_write I2 (by rw [hp]; exact True.intro) hs ⟨o', w1⟩ ⟨by rw [sizeLine_eq, List.length_singleton]; decide, hd, [(k, b, z2)], .cons ⟨rfl, ?_, r2⟩ .nil, o', es, ep, w1, w2, w3, w4, w5⟩
      show upd H2 s.heap.objs.size _ b = _
      rw [upd_ne (fun z => by rw [z, hp] at hb; cases hb)]
      exact hb
end G
namespace G
open PySem PySem.Spec PyProof.Rows L2 TL RZ
section
variable {K : PySem.W.Frag} {H : Hp} {Q : VK} {d b : Addr} {o : Obj}
def DispR (Q : VK) (p : Addr) (x y : V) (H2 : Hp) : Prop := ∃ (b : Addr) (k : List Key), x = .ref b ∧ H2 b = some (.tup (k.map kV)) ∧ H2 p = some (.dT []) ∧ Q (.ref p) (upd H2 p (.dT [(k, y)]))
theorem g_dispT {tk tv : TE} {σ : L2.St} (h : ∀ p, H p = none → tk σ (upd H p (.dT [])) fun x H1 => tv σ H1 fun y H2 => DispR Q p x y H2) : tDispT tk tv σ H Q := h
theorem dget_tR {kvs : List (List Key × V)} {k : List Key} {xs : List V} {v : V} (h : Rd H d (.dT kvs)) (hb : H b = some (.tup xs)) (hx : xs = k.map kV) (hv : valV kvs k = some v) (q : Q v H) : gIx K (.ref d) (.ref b) H Q :=
  .inr ⟨d, v, rfl, .inr ⟨kvs, k, b, h, rfl, by rw [← hx]; exact hb, hv.symm⟩, q⟩
theorem din_t {kvs : List (List Key × V)} {k : List Key} {xs : List V} (h : H d = some (.dT kvs)) (hb : H b = some (.tup xs)) (hx : xs = k.map kV) (q : Q (.bl (valV kvs k).isSome) H) : gIn K (.ref b) (.ref d) H Q :=
  .inr (.inr (.inl ⟨d, _, rfl, DGet.t h (by rw [← hx]; exact hb), q⟩))
/-- range(a, b, -1) -/
def Rn3 (R : It → Hp → Prop) (vs : List V) (H1 : Hp) : Prop := ∃ (i j c : Int) (n : Nat), vs = [.int i, .int j, .int c] ∧ RgC i j c n ∧ R (Itc i c n) H1
theorem g_rng3 {ts : TA} {σ : L2.St} {R : It → Hp → Prop} (h : ts σ H (Rn3 R)) : iRng3 ts σ H R := h
theorem wk_rngC (lo c : Int) (n : Nat) : Wk (Itc lo c n) n (fun _ => True) (fun i x H H' => H' = H ∧ x = .int (lo + (i : Nat) * c)) :=
  ⟨fun i H h _ => h, fun H _ => Nat.le_refl _, fun i H x H' _ _ y => y⟩
theorem wk_keysT {kvs : List (List Key × V)} : Wk (Itkt d o kvs) kvs.length (fun H => H d = some (.frz o (.dT kvs))) (fun i x H H' => H' = H ∧ ∃ k v q, kvs[i]? = some (k, v) ∧ x = .ref q ∧ H q = some (.tup (k.map kV))) :=
  ⟨fun i H h g => ⟨g, h⟩, fun H g => ⟨g, Nat.le_refl _⟩, fun i H x H' _ _ y => y⟩
end
end G

namespace G
open PySem PySem.Spec PyProof.Rows L2 TL RZ

/-! ### a small checker of prices, in plain -/
def enc3i (t : Int × Int × Int) : PyData := .tuple [.int t.1, .int t.2.1, .int t.2.2]
theorem ent3 {d : PyData} (h : isEntP isNum d = true) : ∃ t, d = enc3i t := by
  cases d with
  | tuple ds =>
    have num : ∀ {x : PyData}, isNum x = true → ∃ i, x = .int i := fun {x} hx => by
      cases x with
      | int i => exact ⟨i, rfl⟩
      | none => cases hx
      | bool b => cases hx
      | str z => cases hx
      | list l => cases hx
      | tuple l => cases hx
      | dict l => cases hx
    by_cases hl : ds.length = 3
    · rw [isEntP_yes hl] at h
      match ds, hl, h with
      | [a, b, c], _, h =>
        simp only [List.all_cons, List.all_nil, Bool.and_true, Bool.and_eq_true] at h
        obtain ⟨i, rfl⟩ := num h.1
        obtain ⟨j, rfl⟩ := num h.2.1
        obtain ⟨k, rfl⟩ := num h.2.2
        exact ⟨(i, j, k), rfl⟩
    · rw [isEntP_no hl] at h; cases h
  | none => cases h
  | bool b => cases h
  | str z => cases h
  | int i => cases h
  | list l => cases h
  | dict l => cases h
theorem ent3_enc (t : Int × Int × Int) : isEntP isNum (enc3i t) = true := by
  unfold enc3i
  rw [isEntP_yes rfl]; rfl
theorem ent3s : ∀ {ds : List PyData}, ds.all (isEntP isNum) = true → ∃ ts : List (Int × Int × Int), ds = ts.map enc3i
  | [], _ => ⟨[], rfl⟩
  | d :: ds, h => by
    rw [List.all_cons, Bool.and_eq_true] at h
    obtain ⟨t, rfl⟩ := ent3 h.1
    obtain ⟨ts, rfl⟩ := ent3s h.2
    exact ⟨t :: ts, rfl⟩
theorem eqv_II (a b : Int × Int) : PyData.eqv (encII a) (encII b) = decide (a = b) := by
  obtain ⟨x, n⟩ := a
  obtain ⟨y, m⟩ := b
  show PyData.eqv (.tuple [.int x, .int n]) (.tuple [.int y, .int m]) = _
  simp only [PyData.eqv, PyData.eqvAll, Bool.and_true, Prod.mk.injEq]
  by_cases h1 : x = y <;> by_cases h2 : n = m <;> simp [h1, h2]
theorem eqv_IIs : ∀ as bs : List (Int × Int), PyData.eqvAll (as.map encII) (bs.map encII) = decide (as = bs)
  | [], [] => by simp [PyData.eqvAll]
  | [], _ :: _ => by simp [PyData.eqvAll]
  | _ :: _, [] => by simp [PyData.eqvAll]
  | a :: as, b :: bs => by
    rw [List.map_cons, List.map_cons, PyData.eqvAll, eqv_II, eqv_IIs as bs, Bool.eq_iff_iff, Bool.and_eq_true, decide_eq_true_eq, decide_eq_true_eq, decide_eq_true_eq, List.cons.injEq]
def cut2 : PyData → PyData
  | .tuple l => .tuple (l.take 2)
  | d => d
def areD (n : Nat) : PyData → Bool
  | .list ds => ds.all (isEntP isNum) && PyData.eqv (.list (ds.map cut2)) (.list ((strN n n).map encPr))
  | _ => false
theorem fun_of_list {α : Type} [DecidableEq α] : ∀ (l : List α) (vs : List Int), l.Nodup → vs.length = l.length → ∃ f : α → Int, vs = l.map f
  | [], vs, _, h => ⟨fun _ => 0, List.length_eq_zero_iff.mp h⟩
  | a :: l, [], _, h => by cases h
  | a :: l, v :: vs, hn, h => by
    obtain ⟨h1, h2⟩ := List.nodup_cons.mp hn
    obtain ⟨f, rfl⟩ := fun_of_list l vs h2 (by simpa using h)
    refine ⟨fun x => if x = a then v else f x, ?_⟩
    rw [List.map_cons, if_pos rfl]
    congr 1
    refine List.map_congr_left fun x hx => ?_
    rw [if_neg (fun z => h1 (by rw [← z]; exact hx))]
theorem strB_nodup (n b : Nat) : (strB n b).Nodup := by
  unfold strB
  refine List.pairwise_map.mpr (List.nodup_range.imp fun h z => h ?_)
  have := (Prod.mk.inj z).2
  omega
theorem strN_nodup (n : Nat) : ∀ i, (strN n i).Nodup
  | 0 => List.nodup_nil
  | i + 1 => by
    rw [strN_succ, List.nodup_append]
    refine ⟨strN_nodup n i, strB_nodup n i, fun a ha b hb z => ?_⟩
    subst z
    have h1 := (strN_mem.mp ha).1
    unfold strB at hb
    obtain ⟨k, hk, rfl⟩ := List.mem_map.mp hb
    exact Nat.lt_irrefl i h1
theorem are_iff {n : Nat} {d : PyData} : areD n d = true ↔ ∃ P : Nat → Nat → Int, d = .list ((strN n n).map (encTr P)) := by
  constructor
  · intro h
    cases d with
    | list ds =>
      replace h := Bool.and_eq_true_iff.mp (show (ds.all (isEntP isNum) && PyData.eqv (.list (ds.map cut2)) (.list ((strN n n).map encPr))) = true from h)
      obtain ⟨ts, rfl⟩ := ent3s h.1
      have h2 := h.2
      have e1 : (ts.map enc3i).map cut2 = (ts.map fun t => (t.1, t.2.1)).map encII := by rw [List.map_map, List.map_map]; rfl
      have e2 : (strN n n).map encPr = ((strN n n).map fun a => ((a.1 : Int), (a.2 : Int))).map encII := by rw [List.map_map]; rfl
      rw [PyData.eqv, e1, e2, eqv_IIs, decide_eq_true_eq] at h2
      obtain ⟨f, hf⟩ := fun_of_list (strN n n) (ts.map fun t => t.2.2) (strN_nodup n n) (by have := congrArg List.length h2; simpa using this)
      refine ⟨fun b e => f (b, e), ?_⟩
      congr 1
      refine List.ext_getElem (by have := congrArg List.length h2; simpa using this) fun i i1 i2 => ?_
      rw [List.length_map] at i1 i2
      have a1 : (ts.map fun t => (t.1, t.2.1))[i]? = some ((ts[i]).1, (ts[i]).2.1) := by rw [List.getElem?_map, List.getElem?_eq_getElem i1]; rfl
      have a2 : (ts.map fun t => t.2.2)[i]? = some (ts[i]).2.2 := by rw [List.getElem?_map, List.getElem?_eq_getElem i1]; rfl
      rw [h2, List.getElem?_map, List.getElem?_eq_getElem i2] at a1
      rw [hf, List.getElem?_map, List.getElem?_eq_getElem i2] at a2
      rw [List.getElem_map, List.getElem_map]
      have b1 := Option.some.inj a1
      have b2 := Option.some.inj a2
      obtain ⟨b3, b4⟩ := Prod.mk.inj b1
      unfold enc3i encTr
      rw [← b3, ← b4, ← b2]
    | none => cases h
    | bool b => cases h
    | str z => cases h
    | int i => cases h
    | tuple l => cases h
    | dict l => cases h
  · rintro ⟨P, rfl⟩
    show (((strN n n).map (encTr P)).all (isEntP isNum) && PyData.eqv (.list (((strN n n).map (encTr P)).map cut2)) (.list ((strN n n).map encPr))) = true
    have e1 : ((strN n n).map (encTr P)).map cut2 = ((strN n n).map fun a => ((a.1 : Int), (a.2 : Int))).map encII := by rw [List.map_map, List.map_map]; rfl
    have e2 : (strN n n).map encPr = ((strN n n).map fun a => ((a.1 : Int), (a.2 : Int))).map encII := by rw [List.map_map]; rfl
    rw [Bool.and_eq_true]
    refine ⟨?_, by rw [PyData.eqv, e1, e2, eqv_IIs]; exact decide_eq_true rfl⟩
    rw [List.all_map, List.all_eq_true]
    exact fun a _ => ent3_enc ((a.1 : Int), (a.2 : Int), P a.1 a.2)
theorem strN_all {n b e : Nat} : (b, e) ∈ strN n n ↔ b < e ∧ e ≤ n := by
  rw [strN_mem]
  exact ⟨fun h => h.2, fun h => ⟨by show b < n; omega, h⟩⟩
/-! so many parts just -/
def ExS (P : Nat → Nat → Int) (e m b : Nat) (x : Int) : Prop := ∃ cs, Spl b e cs ∧ cs.length = m ∧ x = sumP P b cs
theorem Spl.wide : ∀ {b e cs}, Spl b e cs → b + cs.length ≤ e
  | _, _, _, .one h => h
  | _, _, _, .cons h t => by have := t.wide; rw [List.length_cons]; omega
structure LeT (P : Nat → Nat → Int) (e : Nat) (D : Nat → Nat → Prop) (kv : List (List Key × V)) : Prop where
  z : ∀ c, valV kv (k2 c 0) = if c = e then some (.int 0) else none
  y : ∀ f m, 1 ≤ m → D f m → f + m ≤ e → ∃ x, valV kv (k2 f m) = some (.int x) ∧ IsMin (ExS P e m f) x
  n : ∀ f m, 1 ≤ m → ¬ (D f m ∧ f + m ≤ e) → valV kv (k2 f m) = none
/-- what a turn looks at: the first part ends at c, k parts behind it -/
structure SomeT (P : Nat → Nat → Int) (e f k : Nat) (kv : List (List Key × V)) (zs : List Int) : Prop where
  a : ∀ z ∈ zs, ∃ c x, f < c ∧ c ≤ e ∧ valV kv (k2 c k) = some (.int x) ∧ z = x + P f c
  b : ∀ c x, f < c → c ≤ e → valV kv (k2 c k) = some (.int x) → x + P f c ∈ zs
section
variable {P : Nat → Nat → Int} {e f k : Nat} {D : Nat → Nat → Prop} {kv : List (List Key × V)} {zs : List Int}
theorem some_nil (L : LeT P e D kv) (hf : f < e) (hD : ∀ c m, f < c → c < e → 1 ≤ m → m ≤ k → D c m) (S : SomeT P e f k kv zs) (hz : zs = []) : ¬ f + (k + 1) ≤ e := by
  intro h
  subst hz
  cases k with
  | zero =>
    have := S.b e 0 hf (Nat.le_refl _) (by rw [L.z, if_pos rfl])
    cases this
  | succ k =>
    obtain ⟨x, hx, _⟩ := L.y (f + 1) (k + 1) (by omega) (hD (f + 1) (k + 1) (by omega) (by omega) (by omega) (Nat.le_refl _)) (by omega)
    have := S.b (f + 1) x (by omega) (by omega) hx
    cases this
theorem some_min (L : LeT P e D kv) (hD : ∀ c m, f < c → c < e → 1 ≤ m → m ≤ k → D c m) (S : SomeT P e f k kv zs) {z : Int} (h1 : z ∈ zs) (h2 : ∀ y ∈ zs, z ≤ y) : f + (k + 1) ≤ e ∧ IsMin (ExS P e (k + 1) f) z := by
  obtain ⟨c, x, c1, c2, hx, rfl⟩ := S.a z h1
  have low : ∀ y, ExS P e (k + 1) f y → x + P f c ≤ y := by
    rintro y ⟨cs, hs, hl, rfl⟩
    cases hs with
    | one h =>
      have hk : k = 0 := by rw [List.length_singleton] at hl; omega
      subst hk
      have := h2 _ (S.b e 0 h (Nat.le_refl _) (by rw [L.z, if_pos rfl]))
      show _ ≤ P f e + 0
      omega
    | cons h t =>
      rename_i c' cs'
      rw [List.length_cons] at hl
      have hw := t.wide
      have hne := t.ne
      have hlt := t.lt
      obtain ⟨x', hx', hm⟩ := L.y c' k (by omega) (hD c' k h hlt (by omega) (Nat.le_refl _)) (by omega)
      have g1 := h2 _ (S.b c' x' h (Nat.le_of_lt hlt) hx')
      have g2 := hm.2 _ ⟨cs', t, by omega, rfl⟩
      show _ ≤ P f c' + sumP P c' cs'
      omega
  cases k with
  | zero =>
    rw [L.z] at hx
    by_cases ce : c = e
    · subst ce
      rw [if_pos rfl] at hx
      obtain rfl : x = 0 := by have := Option.some.inj hx; injection this with this; exact this.symm
      exact ⟨by omega, ⟨[c], .one c1, rfl, by show 0 + P f c = P f c + 0; omega⟩, low⟩
    · rw [if_neg ce] at hx; cases hx
  | succ k =>
    by_cases hcd : D c (k + 1) ∧ c + (k + 1) ≤ e
    · obtain ⟨x', hx', hm⟩ := L.y c (k + 1) (by omega) hcd.1 hcd.2
      rw [hx] at hx'
      obtain rfl : x = x' := by have := Option.some.inj hx'; injection this
      obtain ⟨cs, hs, hl, rfl⟩ := hm.1
      exact ⟨by omega, ⟨c :: cs, .cons c1 hs, by rw [List.length_cons, hl], by show sumP P c cs + P f c = P f c + sumP P c cs; omega⟩, low⟩
    · rw [L.n c (k + 1) (by omega) hcd] at hx; cases hx
theorem let_put (L : LeT P e D kv) (hf : f + (k + 1) ≤ e) {z : Int} (h : IsMin (ExS P e (k + 1) f) z) : LeT P e (fun x m => D x m ∨ (x = f ∧ m = k + 1)) (putK kv (k2 f (k + 1)) (.int z)) := by
  have look : ∀ x m, valV (putK kv (k2 f (k + 1)) (.int z)) (k2 x m) = if x = f ∧ m = k + 1 then some (.int z) else valV kv (k2 x m) := fun x m => by
    rw [valV_put]
    by_cases c : x = f ∧ m = k + 1
    · rw [if_pos c, if_pos (k2_inj.mpr c)]
    · rw [if_neg c, if_neg (fun z => c (k2_inj.mp z))]
  refine ⟨fun c => ?_, fun x m hm hd he => ?_, fun x m hm hn => ?_⟩
  · rw [look, if_neg (by omega)]; exact L.z c
  · rw [look]
    by_cases c : x = f ∧ m = k + 1
    · rw [if_pos c]
      obtain ⟨rfl, rfl⟩ := c
      exact ⟨z, rfl, h⟩
    · rw [if_neg c]
      exact L.y x m hm (hd.resolve_right c) he
  · rw [look]
    by_cases c : x = f ∧ m = k + 1
    · obtain ⟨rfl, rfl⟩ := c
      exact absurd ⟨.inr ⟨rfl, rfl⟩, hf⟩ hn
    · rw [if_neg c]
      exact L.n x m hm fun z => hn ⟨.inl z.1, z.2⟩
theorem let_skip (L : LeT P e D kv) (hf : ¬ f + (k + 1) ≤ e) : LeT P e (fun x m => D x m ∨ (x = f ∧ m = k + 1)) kv :=
  ⟨L.z, fun x m hm hd he => L.y x m hm (hd.resolve_right (by rintro ⟨rfl, rfl⟩; exact hf he)) he, fun x m hm hn => L.n x m hm fun z => hn ⟨.inl z.1, z.2⟩⟩
theorem LeT.weak {D' : Nat → Nat → Prop} (L : LeT P e D kv) (h : ∀ x m, 1 ≤ m → x + m ≤ e → (D' x m ↔ D x m)) : LeT P e D' kv :=
  ⟨L.z, fun x m hm hd he => L.y x m hm ((h x m hm he).mp hd) he, fun x m hm hn => L.n x m hm fun z => hn ⟨(h x m hm z.2).mpr z.1, z.2⟩⟩
/-- the least of all numbers of parts -/
theorem let_best {b j : Nat} (L : LeT P e D kv) (hb : b < e) (hD : ∀ m, 1 ≤ m → m ≤ j + 1 → D b m) {z : Int} (h1 : ∃ m, 1 ≤ m ∧ m ≤ j + 1 ∧ valV kv (k2 b m) = some (.int z)) (h2 : ∀ m x, 1 ≤ m → m ≤ j + 1 → valV kv (k2 b m) = some (.int x) → z ≤ x) : z = besF P e j b := by
  refine IsMin.eq ?_ (besF_min j b hb)
  obtain ⟨m, m1, m2, hz⟩ := h1
  have hme : b + m ≤ e := by
    rcases Nat.lt_or_ge e (b + m) with c | c
    · rw [L.n b m m1 (fun z => by omega)] at hz; cases hz
    · exact c
  obtain ⟨x, hx, hm⟩ := L.y b m m1 (hD m m1 m2) hme
  rw [hz] at hx
  obtain rfl : z = x := by have := Option.some.inj hx; injection this
  refine ⟨?_, ?_⟩
  · obtain ⟨cs, hs, hl, hx⟩ := hm.1
    exact ⟨cs, hs, by omega, hx⟩
  · rintro y ⟨cs, hs, hl, rfl⟩
    have hw := hs.wide
    obtain ⟨x', hx', hm'⟩ := L.y b cs.length hs.ne (hD _ hs.ne hl) hw
    have g1 := h2 cs.length x' hs.ne hl hx'
    have g2 := hm'.2 _ ⟨cs, hs, rfl, rfl⟩
    omega
end
/-- a stretch's price stands -/
def HoldP (w : Nat) (S P : Nat → Nat → Int) (b e : Nat) : Prop := (e - b = 1 → P b e ≤ 0) ∧ (2 ≤ e - b → ∀ cs, Spl b e cs → 2 ≤ cs.length → cs.length ≤ w → P b e ≤ S b e + sumP P b cs)
theorem hold_least {w : Nat} {S P : Nat → Nat → Int} {b e : Nat} (hw : 2 ≤ w) (h : 2 ≤ e - b) {z : Int} (h1 : ∃ c, b < c ∧ c < e ∧ z = P b c + besF P e (w - 2) c) (h2 : ∀ c, b < c → c < e → z ≤ P b c + besF P e (w - 2) c) : HoldP w S P b e ↔ P b e ≤ S b e + z := by
  constructor
  · rintro ⟨_, g⟩
    obtain ⟨c, c1, c2, rfl⟩ := h1
    obtain ⟨cs, hs, hl, hx⟩ := (besF_min (P := P) (w - 2) c c2).1
    have := g h (c :: cs) (.cons c1 hs) (by have := hs.ne; rw [List.length_cons]; omega) (by rw [List.length_cons]; omega)
    rw [hx]
    exact this
  · intro g
    refine ⟨fun z => by omega, fun _ cs hs l1 l2 => ?_⟩
    cases hs with
    | one h => rw [List.length_singleton] at l1; omega
    | cons h t =>
      rename_i c cs
      rw [List.length_cons] at l2
      have g1 := h2 c h t.lt
      have g2 := (besF_min (P := P) (w - 2) c t.lt).2 _ ⟨cs, t, by omega, rfl⟩
      show P b e ≤ S b e + (P b c + sumP P c cs)
      omega
/-- .. by all cuts -/
theorem hold_cuts {w : Nat} {S P : Nat → Nat → Int} {b e : Nat} (hw : 2 ≤ w) (hb : b < e) : HoldP w S P b e ↔ ((e - b = 1 → P b e ≤ 0) ∧ ∀ c ∈ cutsA w b e, P b e ≤ S b e + besC P e c) := by
  constructor
  · rintro ⟨g1, g2⟩
    refine ⟨g1, fun c hc => ?_⟩
    obtain ⟨hu, hl⟩ := (cutsA_up (by omega) hb).mp hc
    obtain ⟨t, rfl⟩ := hu.hd
    have hs := hu.spl
    have hw2 := hs.wide
    have hlen := hu.len
    rw [List.length_append, List.length_singleton] at hw2
    rw [List.length_cons] at hl hlen
    exact g2 (by omega) (t ++ [e]) hs (by rw [List.length_append, List.length_singleton]; omega) (by rw [List.length_append, List.length_singleton]; omega)
  · rintro ⟨g1, g2⟩
    refine ⟨g1, fun _ cs hs l1 l2 => ?_⟩
    obtain ⟨t, rfl, g4, g5⟩ := hs.upc
    rw [List.length_append, List.length_singleton] at l1 l2
    exact g2 (b :: t) ((cutsA_up (by omega) hb).mpr ⟨⟨⟨t, rfl⟩, g4, g5, by rw [List.length_cons]; omega⟩, by rw [List.length_cons]; omega⟩)
def nearD (w n : Nat) (d : PyData) : Bool := planD w n d && decide (leavesD d = rgI 0 n)
/-- what is shown -/
def ShowN (w : Nat) (ns : List Int) (t p : PyData) : Prop := nearD w ns.length t = true ∧ ∃ P : Nat → Nat → Int, p = .list ((strN ns.length ns.length).map (encTr P)) ∧ (∀ b e, b < e → e ≤ ns.length → HoldP w (szS ns) P b e) ∧ ∃ u : PT, t = encPT u ∧ P 0 ns.length = u.cost (szN ns)
theorem encPT_inj : ∀ {a b : PT}, encPT a = encPT b → a = b := fun {a} => by
  have h : ∀ a : PT, ∀ b, encPT a = encPT b → a = b := PT.ind (fun n b h => by
    cases b with
    | lf m => rw [encPT_lf, encPT_lf] at h; injection h with h; rw [h]
    | nd k => rw [encPT_lf, encPT_nd] at h; cases h) fun l ih b h => by
    cases b with
    | lf m => rw [encPT_lf, encPT_nd] at h; cases h
    | nd k =>
      rw [encPT_nd, encPT_nd] at h
      injection h with h
      have : ∀ l k : List PT, (∀ t ∈ l, ∀ b, encPT t = encPT b → t = b) → l.map encPT = k.map encPT → l = k := by
        intro l
        induction l with
        | nil => intro k _ h; cases k with | nil => rfl | cons _ _ => cases h
        | cons t l ihl =>
          intro k hk h
          cases k with
          | nil => cases h
          | cons s k =>
            rw [List.map_cons, List.map_cons] at h
            obtain ⟨h1, h2⟩ := List.cons.inj h
            rw [hk t List.mem_cons_self s h1, ihl k (fun x hx => hk x (List.mem_cons_of_mem _ hx)) h2]
      rw [this l k ih h]
  exact fun {b} => h a b
/-! the dict of all prices, in order -/
theorem mergeT_new : ∀ (more kvs : List (List Key × V)), (∀ kv ∈ more, valV kvs kv.1 = none) → (more.map fun kv : List Key × V => kv.1).Nodup → mergeT kvs more = kvs ++ more
  | [], kvs, _, _ => by rw [List.append_nil]; rfl
  | p :: more, kvs, h, hn => by
    rw [List.map_cons] at hn
    obtain ⟨n1, n2⟩ := List.nodup_cons.mp hn
    have h0 := h p List.mem_cons_self
    show mergeT (putK kvs p.1 p.2) more = _
    rw [putK_new _ h0, mergeT_new more (kvs ++ [(p.1, p.2)]) (fun kv hk => ?_) n2, List.append_assoc]
    · rfl
    · rw [valV_snoc _ _ _ _ h0, if_neg (fun z => n1 (by rw [← z]; exact List.mem_map.mpr ⟨kv, hk, rfl⟩))]
      exact h kv (List.mem_cons_of_mem _ hk)
def tabP (n : Nat) (P : Nat → Nat → Int) : List (List Key × V) := (strN n n).map fun a => (k2 a.1 a.2, V.int (P a.1 a.2))
theorem tabP_nodup (n : Nat) (P : Nat → Nat → Int) : ((tabP n P).map fun kv : List Key × V => kv.1).Nodup := by
  unfold tabP
  rw [List.map_map]
  refine List.pairwise_map.mpr ((strN_nodup n n).imp fun {a b} h z => h ?_)
  obtain ⟨z1, z2⟩ := k2_inj.mp z
  exact Prod.ext z1 z2
theorem valV_tab {n : Nat} {P : Nat → Nat → Int} {b e : Nat} (h1 : b < e) (h2 : e ≤ n) : valV (tabP n P) (k2 b e) = some (.int (P b e)) := by
  have hm : (b, e) ∈ strN n n := strN_all.mpr ⟨h1, h2⟩
  unfold valV
  cases hf : (tabP n P).find? fun kv => decide (kv.1 = k2 b e) with
  | none =>
    have := List.find?_eq_none.mp hf (k2 b e, V.int (P b e)) (List.mem_map.mpr ⟨(b, e), hm, rfl⟩)
    exact absurd (decide_eq_true rfl) this
  | some kv =>
    have h3 : kv.1 = k2 b e := by
      have := List.find?_some hf
      exact of_decide_eq_true this
    obtain ⟨a, ha, rfl⟩ := List.mem_map.mp (List.mem_of_find?_eq_some hf)
    obtain ⟨z1, z2⟩ := k2_inj.mp h3
    show some (V.int (P a.1 a.2)) = _
    rw [z1, z2]
theorem dict_tab {K : PySem.W.Frag} {B H : Hp} {Q : VK} {p : Addr} {ws : List V} {n : Nat} {P : Nat → Nat → Int} (s : Same B H) (h : H p = some (.lst ws)) (hd : Dts B ws ((strN n n).map (encP2 P)))
    (q : AtNew Q (.dT (tabP n P)) H) : gDictT K [.ref p] H Q := by
  obtain ⟨ps, rfl, hp⟩ := prT2_of (K := K) s hd
  refine .inr ⟨p, ps, _, rfl, .inl (.inl h), hp, ?_⟩
  have e := mergeT_new (tabP n P) [] (fun _ _ => rfl) (tabP_nodup n P)
  rw [List.nil_append] at e
  show AtNew Q (.dT (mergeT [] (tabP n P))) H
  rw [e]
  exact q
theorem tabP_at {n : Nat} {P : Nat → Nat → Int} {i : Nat} {k : List Key} {v : V} (h : (tabP n P)[i]? = some (k, v)) : ∃ a, (strN n n)[i]? = some a ∧ k = k2 a.1 a.2 ∧ v = .int (P a.1 a.2) := by
  unfold tabP at h
  obtain ⟨a, ha, e⟩ := map_at' h
  obtain ⟨e1, e2⟩ := Prod.mk.inj e
  exact ⟨a, ha, e1, e2⟩
theorem tabP_len {n : Nat} {P : Nat → Nat → Int} : (tabP n P).length = (strN n n).length := List.length_map ..
theorem rd_same {H H' : Hp} {a : Addr} {u : HO} (s : Same H H') (h : Rd H a u) : Rd H' a u := h.elim (fun h => .inl (s _ _ h)) fun ⟨o, h⟩ => .inr ⟨o, s _ _ h⟩
theorem Pu.lock {B0 H0 B H : Hp} {d : Addr} (S : Pu B0 H0 B H) (w : HO) : Pu (upd B d w) (upd H d w) (upd B d w) (upd H d w) := Pu.new (Same.upd_at S.sub d w)
theorem nodes_enc : ∀ t : PT, t.nodes = nodesD (encPT t) := PT.ind (fun n => by rw [encPT_lf, nodes_lf, nodesD]) fun l ih => by
  rw [encPT_nd, nodes_nd, nodesD_tup]
  congr 1
  induction l with
  | nil => rw [nodesL_nil]; exact nodesDs_nil.symm
  | cons t l ihl => rw [nodesL_cons, List.map_cons, nodesDs_cons, ih t List.mem_cons_self, ihl fun x hx => ih x (List.mem_cons_of_mem _ hx)]
theorem three_D {B : Hp} {v : V} {a b c : Int} (h : Dt B v (.tuple [.int a, .int b, .int c])) : ∃ p, v = .ref p ∧ B p = some (.tup [.int a, .int b, .int c]) := by
  obtain ⟨px, ys, rfl, hpx, hys⟩ := h.tuple
  obtain ⟨w1, r1, rfl, g1, hys⟩ := Dts.cons' hys
  obtain ⟨w2, r2, rfl, g2, hys⟩ := Dts.cons' hys
  obtain ⟨w3, r3, rfl, g3, hys⟩ := Dts.cons' hys
  cases hys
  obtain rfl := g1.i
  obtain rfl := g2.i
  obtain rfl := g3.i
  exact ⟨px, rfl, hpx⟩
theorem prsP_nat : ∀ (cs : List Nat) (b : Nat), ∀ a ∈ prsP b cs, ∃ x y : Nat, a = ((x : Int), (y : Int)) := fun cs => by
  induction cs with
  | nil => exact fun _ _ h => nomatch h
  | cons c cs ih =>
    intro b a ha
    rcases List.mem_cons.mp ha with rfl | ha
    · exact ⟨b, c, rfl⟩
    · exact ih c a ha
/-- a price of another list of prices of the same data -/
theorem enc_same {n : Nat} {P P' : Nat → Nat → Int} (h : (.list ((strN n n).map (encTr P)) : PyData) = .list ((strN n n).map (encTr P'))) : ∀ b e, b < e → e ≤ n → P b e = P' b e := by
  intro b e h1 h2
  have h3 := (List.map_inj_left.mp (PyData.list.inj h)) (b, e) (strN_all.mpr ⟨h1, h2⟩)
  unfold encTr at h3
  have h4 := PyData.tuple.inj h3
  simp only [List.cons.injEq, PyData.int.injEq, and_true] at h4
  exact h4.2.2
theorem HoldP.same {w n : Nat} {S P P' : Nat → Nat → Int} {b e : Nat} (hh : ∀ b e, b < e → e ≤ n → P b e = P' b e) (h1 : b < e) (h2 : e ≤ n) (h : HoldP w S P' b e) : HoldP w S P b e := by
  obtain ⟨g1, g2⟩ := h
  refine ⟨fun z => by rw [hh b e h1 h2]; exact g1 z, fun z cs c1 c2 c3 => ?_⟩
  rw [hh b e h1 h2, sumP_congr c1 fun x y h3 h4 h5 _ => hh x y h4 (Nat.le_trans h5 h2)]
  exact g2 z cs c1 c2 c3
theorem slice_sum {ns : List Int} {b e : Nat} (h : b ≤ e) : ((ns.drop b).take (e - b)).sum = szS ns b e := by
  rw [← List.drop_take]
  have h2 : (ns.take e).take b ++ (ns.take e).drop b = ns.take e := List.take_append_drop b (ns.take e)
  have h3 := congrArg List.sum h2
  rw [List.sum_append, List.take_take, Nat.min_eq_left (by omega)] at h3
  unfold szS
  omega
end G

namespace G
open PySem PySem.Spec PyProof.Rows L2 TL RZ

/-! ### exceptions, where nothing is being shown: defs that may raise, by name -/
structure HasX (P : Program) (w : World) (K : PySem.W.Frag) (mg : Str → Option Value) (base : Heap) (k : Nat) (x : Str) (ps : List Str) (sp : Sp) : Prop where
  ex : ∃ (f : Addr) (fd : FuncData), mg x = some (.ref f) ∧ PySem.W.keepIn K (.ref f) = true ∧ Binds K fd ps [] ∧ FnG P w K mg base (L2.CX P w) k f fd ps sp
structure HasMX (P : Program) (w : World) (K : PySem.W.Frag) (mg : Str → Option Value) (base : Heap) (k : Nat) (C : Addr) (m : Str) (ps : List Str) (sp : Sp) : Prop where
  ex : ∃ (f : Addr) (fd : FuncData), Meth K C m f ∧ Binds K fd ps [] ∧ FnG P w K mg base (L2.CX P w) k f fd ps sp
structure HasIX (P : Program) (w : World) (K : PySem.W.Frag) (mg : Str → Option Value) (base : Heap) (k : Nat) (C : Addr) (ps : List Str) (sp : Sp) : Prop where
  ex : ∃ (f : Addr) (fd : FuncData), Mk K C f ∧ Binds K fd ps [] ∧ FnG P w K mg base (L2.CX P w) k f fd ps sp
section
variable {P : Program} {w : World} {K : PySem.W.Frag} {mg : Str → Option Value} {base : Heap} {k : Nat} {f C : Addr} {fd : FuncData} {x m : Str} {ps : List Str} {sp sp' : Sp}
/-- where nothing is let out -/
theorem FnG.calm (F : FnG P w K mg base (L2.CX P w) k f fd ps sp) (h : ∀ vs H Q E, sp' vs H Q E → sp vs H Q E0) : FnG P w K mg base CX0 k f fd ps sp' :=
  ⟨fun vs H Q E q => F.len vs H Q E0 (h _ _ _ _ q), fun A ou s H ar us vs Q E r e0 b v q => codeAny_mono (F.run A ou s H ar us vs Q E0 r e0 b v (h _ _ _ _ q)) fun r s' z => by
    match r, z with
    | .error e, ⟨_, _, _, _, _, _, _, _, _, _, _, _, z⟩ => exact z.elim
    | .ok (.ret u), z => exact z
    | .ok .next, z => exact z
    | .ok .brk, z => exact z
    | .ok .cont, z => exact z⟩
theorem HasX.calm (h : HasX P w K mg base k x ps sp) (c : ∀ vs H Q E, sp' vs H Q E → sp vs H Q E0) : Has P w K mg base k x ps sp' := by
  obtain ⟨f, fd, h1, h2, h3, F⟩ := h
  exact ⟨f, fd, h1, h2, h3, F.calm c⟩
theorem HasMX.calm (h : HasMX P w K mg base k C m ps sp) (c : ∀ vs H Q E, sp' vs H Q E → sp vs H Q E0) : HasM P w K mg base k C m ps sp' := by
  obtain ⟨f, fd, h1, h2, F⟩ := h
  exact ⟨f, fd, h1, h2, F.calm c⟩
theorem HasIX.calm (h : HasIX P w K mg base k C ps sp) (c : ∀ vs H Q E, sp' vs H Q E → sp vs H Q E0) : HasI P w K mg base k C ps sp' := by
  obtain ⟨f, fd, h1, h2, F⟩ := h
  exact ⟨f, fd, h1, h2, F.calm c⟩
end
section
variable {X : Cx} {W : WX} {k : Nat} {f C : Addr} {fd : FuncData} {ps : List Str} {sp : Sp} {E : L2.St → XK} {x m : Str} {p pos apos : Pos} {e o : Expr} {es : List Expr} {ta : TE} {t : TA} {pl : Sem Bool}
theorem run_fnXG {pins : List (Addr × Obj)} {σ : L2.St} {H : Hp} {s : Shared} {Q : VK} {us : List Value} {vs : List V} (F : FnG X.prog X.w X.K X.mg X.base (L2.CX X.prog X.w) k f fd ps sp) (hr : RoomG k X.A) (hb : Binds X.K fd ps []) (tk : Takes X W)
    (I : Inv X pins σ H s) (r : Vals vs us) (h : sp vs H Q (WE W σ)) : wpAny (model X.prog X.w) X.A (call (.ref f) us) (EP X pins σ Q) X.xe s := by
  have hl : us.length = ps.length := by rw [← r.length]; exact F.len _ _ _ _ h
  have b := hb s us I.kIn (by rw [List.append_nil]; exact hl)
  rw [List.append_nil] at b
  refine wpAny_call (codeAny_mono (F.run X.A X.stack s H ⟨us, []⟩ us vs Q (WE W σ) hr I.env0 b r h) fun r s' hq => ?_)
  match r, hq with
  | .error e, hq => exact passAt tk σ pins H s e s' I hq
  | .ok (.ret u), hq => exact I.after hq
  | .ok .next, hq => exact hq.elim
  | .ok .brk, hq => exact hq.elim
  | .ok .cont, hq => exact hq.elim
theorem pe_callX (h : HasX X.prog X.w X.K X.mg X.base k x ps sp) (tk : Takes X W) (hr : RoomG k X.A) (hg : Gl X x) (ha : PA X (e :: es) t) (hdb : (x == ("__debug__" : Str)) = false := by decide)
    (he : starEach (e :: es) X.env = (false, eval e X.env) :: starEach es X.env := by rfl) (hpl : (backTo pos (starEach es X.env)).any (·.1) = false := by rfl) : PE X (.Call (.Name x p) (e :: es) [] pos) (tCallS sp (WE W) t) := by
  obtain ⟨f, fd, hm, hk, hb, F⟩ := h
  refine ⟨fun pins s σ H Q I h => ?_⟩
  refine wpAny_Call_Name_kw (ld_glob I hg hm ?_ hdb)
  refine PySem.W.callWith_K (h₀ := X.base) I.ok.mod.kin hk (thn (ha.run pos pins s σ H _ I h) fun us s1 ⟨vs, H1, I1, r, q⟩ => ⟨I1.kIn, ?_⟩) he hpl
  exact run_fnXG F hr hb tk I1 r q
/-- o.m(e, ..), which may raise -/
def tMethS (C : Addr) (m : Str) (sp : Sp) (E : L2.St → XK) (ta : TE) (t : TA) : TE := fun σ H Q => ta σ H fun x H1 => ∃ a dx fs, x = .ref a ∧ H1 a = some (.ins C dx fs) ∧ fs.lookup m = none ∧ t σ H1 fun vs H2 => sp (x :: vs) H2 Q (E σ)
theorem pe_methX (h : HasMX X.prog X.w X.K X.mg X.base k C m ps sp) (tk : Takes X W) (c : Cls X.K C) (hr : RoomG k X.A) (ho : PE X o ta) (ha : PA X (e :: es) t)
    (hst : starEach (e :: es) X.env = (false, eval e X.env) :: starEach es X.env := by rfl) (hpl : (backTo pos (starEach es X.env)).any (·.1) = false := by rfl)
    (ht : eval (.Call (.Attribute o m apos) (e :: es) [] pos) X.env = (do
      let ov ← eval o X.env
      standAt apos.atName
      let (f, first) ← holding [ov] (getMethod ov m pl)
      callWith pos f first (backTo pos (starEach (e :: es) X.env)) (backToKw pos (keywordEach [] X.env))) := by rfl) :
    PE X (.Call (.Attribute o m apos) (e :: es) [] pos) (tMethS C m sp (WE W) ta t) := by
  obtain ⟨f, fd, hm, hb, F⟩ := h
  refine ⟨fun pins s σ H Q I h => ?_⟩
  refine PySem.W.methodCall_KW (pl := pl) (thn (ho.run pins s σ H _ I h) fun u s1 ⟨x, H1, I1, rx, a, dx, fs, ex, ea, l, q⟩ => ?_) ht
  subst ex
  obtain rfl : u = Value.ref a := rx
  refine getmeth_ok I1 ea c hm l ?_
  refine PySem.W.callWith_K (first := [.ref a]) (h₀ := X.base) I.ok.mod.kin hm.kp (thn (ha.run pos pins s1 σ H1 _ I1 q) fun us s2 ⟨vs, H2, I2, r, q2⟩ => ⟨I2.kIn, ?_⟩) hst hpl
  exact run_fnXG (us := .ref a :: us) (vs := .ref a :: vs) F hr hb tk I2 (.cons rfl r) q2
/-- C(e, ..), which may raise -/
def tMakeS (C : Addr) (sp : Sp) (E : L2.St → XK) (t : TA) : TE := fun σ H Q => t σ H fun vs H1 => ∀ x dx, H1 x = none → H1 dx = none → dx ≠ x → sp (.ref x :: vs) (upd (upd H1 dx (.own x)) x (.ins C dx [])) (fun v H2 => v = .non ∧ Q (.ref x) H2) (E σ)
theorem pe_makeX (h : HasIX X.prog X.w X.K X.mg X.base k C ps sp) (tk : Takes X W) (hm : X.mg x = some (.ref C)) (hr : RoomG (k + 1) X.A) (hg : Gl X x) (ha : PA X (e :: es) t) (hdb : (x == ("__debug__" : Str)) = false := by decide)
    (he : starEach (e :: es) X.env = (false, eval e X.env) :: starEach es X.env := by rfl) (hpl : (backTo pos (starEach es X.env)).any (·.1) = false := by rfl) : PE X (.Call (.Name x p) (e :: es) [] pos) (tMakeS C sp (WE W) t) := by
  obtain ⟨f, fd, M, hb, F⟩ := h
  refine ⟨fun pins s σ H Q I h => ?_⟩
  refine wpAny_Call_Name_kw (ld_glob I hg hm ?_ hdb)
  refine PySem.W.callWith_K (h₀ := X.base) I.ok.mod.kin M.kp (thn (ha.run pos pins s σ H _ I h) fun us s1 ⟨vs, H1, I1, r, q⟩ => ⟨I1.kIn, ?_⟩) he hpl
  have hq := q (s1.heap.objs.size + 1) s1.heap.objs.size (I1.hok.fresh (Nat.le_succ _)) (I1.hok.fresh (Nat.le_refl _)) (Nat.ne_of_lt (Nat.lt_succ_self _))
  have I2 := Inv.made (C := C) I1
  have r2 : Vals (V.ref (s1.heap.objs.size + 1) :: vs) (Value.ref (s1.heap.objs.size + 1) :: us) := .cons rfl r
  have hl : (Value.ref (s1.heap.objs.size + 1) :: us).length = ps.length := by
    have e := r2.length
    rw [F.len _ _ _ _ hq] at e
    exact e.symm
  have b := hb _ (Value.ref (s1.heap.objs.size + 1) :: us) I2.kIn (by rw [List.append_nil]; exact hl)
  rw [List.append_nil] at b
  refine wpAny_call (make_map (f := f) I1.kIn M.makes M.init (beq_iff_eq.mp M.fn) (codeAny_mono (F.run _ X.stack _ _ ⟨Value.ref (s1.heap.objs.size + 1) :: us, []⟩ (Value.ref (s1.heap.objs.size + 1) :: us) _ _ (WE W σ) (hr.make C us [])
    (I2.env0.make C us []) b r2 hq) fun r s' hq' => ?_))
  match r, hq' with
  | .error e, hq' => exact passAt tk σ pins _ _ e s' I2 hq'
  | .ok (.ret u), hq' =>
    obtain ⟨v, H', I3, rv, ev, q3⟩ := I2.after hq'
    subst ev
    exact ⟨rv, ⟨V.ref (s1.heap.objs.size + 1), H', I3, rfl, q3⟩⟩
  | .ok .next, hq' => exact hq'.elim
  | .ok .brk, hq' => exact hq'.elim
  | .ok .cont, hq' => exact hq'.elim
end
/-! ### an own exception's making, by a def __init__ that itself says M.__init__(self, ..), M an own class over ValueError -/
structure MeI (K : PySem.W.Frag) (mg : Str → Option Value) (x : Str) (CM : Addr) : Prop where
  g : mg x = some (.ref CM)
  ga : PySem.W.specialIn K (.ref CM) "__getattribute__" = some (some (.builtin "type.__getattribute__"))
  rd : PySem.W.readsIn K CM (.type "type") = true
  ini : PySem.W.findCls K (.ref CM) (.type "type") "__init__" = some (.val (.builtin "ValueError.__init__"))
section
variable {X : Cx} {o e : Expr} {es : List Expr} {to te : TE} {ta : TA} {x f : Str} {p p' p1 p2 pos : Pos} {CM : Addr}
theorem pe_meinit {pl : Sem Bool} (T : MeI X.K X.mg x CM) (hg : Gl X x) (ha : PA X (e :: es) ta) (hdb : (x == ("__debug__" : Str)) = false := by decide)
    (hc : eval (.Call (.Attribute (.Name x p1) "__init__" p2) (e :: es) [] pos) X.env = (do
      let ov ← eval (.Name x p1) X.env
      standAt p2.atName
      let (f, first) ← holding [ov] (getMethod ov "__init__" pl)
      callWith pos f first (backTo pos (starEach (e :: es) X.env)) (backToKw pos (keywordEach [] X.env))) := by rfl)
    (he : starEach (e :: es) X.env = (false, eval e X.env) :: starEach es X.env := by rfl) (hpl : (backTo pos (starEach es X.env)).any (·.1) = false := by rfl) :
    PE X (.Call (.Attribute (.Name x p1) "__init__" p2) (e :: es) [] pos) (tVeI X.K ta) := by
  refine ⟨fun pins s σ H Q I h => ?_⟩
  refine PySem.W.methodCall_KW (ld_glob I hg T.g ?_ hdb) hc
  refine PySem.W.method_cls I.kIn T.ga (PySem.W.cls_value I.kIn T.rd T.ini (by rfl) ?_)
  show wpAny _ _ (callWith pos (Value.builtin "ValueError.__init__") [] (backTo pos (starEach (e :: es) X.env)) []) _ _ _
  refine PyProof.Rows.callWith_method1 (thn (ha.run pos pins _ σ H _ (I.tok _) h) fun us s1 ⟨vs, H1, I1, r1, a, C, ws, ev, hl, T, ea, q⟩ => ?_) he hpl
  subst ev
  cases r1 with
  | @cons _ u0 _ ur ra rw' =>
    obtain rfl : u0 = Value.ref a := ra
    have hlen : ur.length ≤ sizeLine := by
      rw [← Paired.length rw', sizeLine_eq]
      omega
    exact oinit_ok T I1 ea hlen fun s' J => ⟨.non, H1, J, rfl, q⟩
theorem pmk_oexG {CX : CXT} {C fI : Addr} {k : Nat} {fd : FuncData} {ps : List Str} {sp : Sp} (T : OexC X.K C) (iC : PySem.W.findIn X.K (.ref C) "__init__" = some (some (.ref fI))) (tI : PySem.W.typeIn X.K (.ref fI) = some (.type "function"))
    (F1 : FnG X.prog X.w X.K X.mg X.base CX k fI fd ps sp) (hr : RoomG (k + 1) X.A) (hb : Binds X.K fd ps []) (hx : Passes CX X (fun _ _ _ => False)) (hg : Gl X x) (hm : X.mg x = some (.ref C)) (ha : PA X (e :: es) ta)
    (hdb : (x == ("__debug__" : Str)) = false := by decide) (he : starEach (e :: es) X.env = (false, eval e X.env) :: starEach es X.env := by rfl) (hpl : (backTo pos (starEach es X.env)).any (·.1) = false := by rfl) :
    PMk X (.Call (.Name x p) (e :: es) [] pos) (tMkO C sp [] ta) := by
  intro pins s σ H Q I h
  obtain ⟨nm, q, N, bs, bm, sn, sub, ab, col, dd, k0, k1, k2, k3, k5, hC, hbm⟩ := T.cls
  refine wpAny_Call_Name_kw (ld_glob I hg hm ?_ hdb)
  refine PySem.W.callWith_K (h₀ := X.base) I.ok.mod.kin T.kC (thn (ha.run pos pins s σ H _ I h) fun us s1 ⟨vs, H1, I1, r1, hz, q1⟩ => ⟨I1.kIn, ?_⟩) he hpl
  show wpAny _ _ (call (.ref C) us) _ _ _
  obtain ⟨hp, g, dr, tk, os⟩ := s1
  have hsz : hp.objs.size ≤ hp.objs.size + 1 := Nat.le_succ _
  have hn : H1 (hp.objs.size + 1) = none := I1.hok.fresh hsz
  have hq := q1 (hp.objs.size + 1) hn
  rw [List.append_nil] at hq
  have kk : ∀ b o, hp.get? b = some o → ((hp.push (PySem.W.kdv_tup us)).push (PySem.HandSPX.excO C hp.objs.size)).get? b = some o := fun b o e => Heap.get?_push_of_some _ (Heap.get?_push_of_some _ e)
  have hget : ((hp.push (PySem.W.kdv_tup us)).push (PySem.HandSPX.excO C hp.objs.size)).get? (hp.objs.size + 1) = some (PySem.HandSPX.excO C hp.objs.size) := by heap_get
  have I2 : Inv X pins σ (upd H1 (hp.objs.size + 1) (exo (hp.objs.size + 1) C none)) ⟨(hp.push (PySem.W.kdv_tup us)).push (PySem.HandSPX.excO C hp.objs.size), g, dr, tk, os⟩ :=
    I1.laid (t' := tk) (a := hp.objs.size + 1) (o := exo (hp.objs.size + 1) C none) (h' := (hp.push (PySem.W.kdv_tup us)).push (PySem.HandSPX.excO C hp.objs.size)) kk hsz (exo_ok hget)
  have r2 : Vals (V.ref (hp.objs.size + 1) :: vs) (Value.ref (hp.objs.size + 1) :: us) := .cons rfl r1
  have hl : (Value.ref (hp.objs.size + 1) :: us ++ []).length = ps.length := by
    have e := r2.length
    rw [F1.len _ _ _ _ hq] at e
    rw [List.append_nil]
    exact e.symm
  have hus : us.length ≤ sizeLine := by
    rw [← Paired.length r1, sizeLine_eq]
    omega
  have b2 := hb _ (Value.ref (hp.objs.size + 1) :: us) I2.kIn hl
  rw [List.append_nil] at b2
  refine wpAny_call (PySem.HandSPX.call_own F.excBase_ValueError (fun Y => PySem.HandSPX.refsVE_contains Y bm hbm) (I1.kIn _ _ hC) (PySem.W.looks_findIn I1.kIn iC) (fun self => PySem.W.bind_fn I1.kIn self tI) hus
    (codeAny_mono (F1.run _ X.stack _ _ ⟨Value.ref (hp.objs.size + 1) :: us, []⟩ (Value.ref (hp.objs.size + 1) :: us) _ _ (fun _ _ _ => False) (hr.make C us []) (I2.env0.make C us []) b2 r2 hq) fun r s' hq' => ?_))
  match r, hq' with
  | .error er, hq' => exact hx pins σ _ _ er s' I2 hq'
  | .ok (.ret u), hq' =>
    obtain ⟨v, H2, os2, bare2, un2, hok2, rv, ev, d, fs, ea, ed, hd1, q2⟩ := hq'
    subst ev
    obtain ⟨h2, g2, d2, t2, os'⟩ := s'
    exact ⟨rv, mk_end (raises_own T.exC T.tyC) I1 hsz kk un2 hok2 os2 bare2 ea ed hd1 q2⟩
  | .ok .next, hq' => exact hq'.elim
  | .ok .brk, hq' => exact hq'.elim
  | .ok .cont, hq' => exact hq'.elim
end
/-! ### an exception that is kept behind its except suite -/
/-- at a: an exception of the class cls, its dict d -/
def excH (a : Addr) (cls : Value) (d : Option Addr) : HO := .ext fun h => ∃ o vs, h.get? a = some o ∧ Zc cls d o ∧ o.data = .fields vs
theorem excH_ok {P : Program} {w : World} {H : Hp} {h : Heap} {a : Addr} {cls : Value} {d : Option Addr} {o : Obj} {vs : Array Value} (h1 : h.get? a = some o) (h2 : Zc cls d o) (h3 : o.data = .fields vs) : ObjOk P w H h a (excH a cls d) :=
  ⟨⟨o, vs, h1, h2, h3⟩, ⟨o, h1⟩, fun _ _ ⟨o, vs, e1, e2, e3⟩ k => ⟨o, vs, k _ e1, e2, e3⟩⟩
theorem excH_at {P : Program} {w : World} {H : Hp} {h : Heap} {a : Addr} {cls : Value} {d : Option Addr} (hok : HOk P w H h) (e : H a = some (excH a cls d)) : ∃ o vs, h.get? a = some o ∧ Zc cls d o ∧ o.data = .fields vs := by
  have x : ObjOk P w H h a (.ext fun h => ∃ o vs, h.get? a = some o ∧ Zc cls d o ∧ o.data = .fields vs) := hok a _ e
  exact x.1
theorem Inv.track {X : Cx} {pins : List (Addr × Obj)} {σ : L2.St} {H : Hp} {s : Shared} {a : Addr} {o : HO} (I : Inv X pins σ H s) (n : H a = none) (h0 : X.s_0.heap.get? a = none) (nL : a ≠ X.env.locals) (nc : ∀ x c, X.env.cells.lookup x = some c → c ≠ a)
    (np : ∀ p ∈ X.pn ++ pins, p.1 ≠ a) (new : ObjOk X.prog X.w (upd H a o) s.heap a o) : Inv X pins σ (upd H a o) s :=
  ⟨I.ok, I.os, I.bare, ⟨I.base.keep, I.base.slot, fun b u e m hx => by
      rw [upd_ne fun z => by rw [z, h0] at e; cases e]
      exact I.base.free b u e m hx, I.base.there, fun b xs e => by
      have q := I.base.tups b xs e
      rw [upd_ne (ne_of_none q n)]; exact q, fun b u v e => by
      have q := I.base.frzs b u v e
      rw [upd_ne (ne_of_none q n)]; exact q, fun b ps e => by
      obtain ⟨more, q⟩ := I.base.tbls b ps e
      exact ⟨more, by rw [upd_ne (ne_of_none q n)]; exact q⟩⟩, I.loc, I.cell, by rw [upd_ne (Ne.symm nL)]; exact I.free, fun x c e => by rw [upd_ne (nc x c e)]; exact I.freeC x c e,
    fun p hp => by
      obtain ⟨e1, e2, e3⟩ := I.pin p hp
      exact ⟨e1, by rw [upd_ne (np p hp)]; exact e2, e3⟩, fun b u e => by
      by_cases hb : b = a
      · rw [hb, upd_same] at e
        cases e
        rw [hb]; exact new
      · rw [upd_ne hb] at e
        exact (I.hok b u e).stay (fun _ _ _ q => q) (fun c q => by rw [upd_ne (ne_of_none q n)]; exact q) fun c xs q => by rw [upd_ne (ne_of_none q n)]; exact q, I.len⟩
/-- what the clause 'except x as n' wishes, where the exception may be kept: slot i is n's -/
def wAsK (K : PySem.W.Frag) (c : Value) (i : Nat) (ts : Addr → Value → Option Addr → TS) (Wout : WX) (D : Ends) : WX := fun cls d σ H =>
  ∃ b, PySem.W.exmOne K cls c = some b ∧ (b = true → ∀ a, H a = none → ts a cls d { nx := fun σ' H' => H' a = none → D.nx (σ'.set i none) (upd H' a (excH a cls d)), rt := fun v H' => H' a = none → D.rt v (upd H' a (excH a cls d)), bk := fun σ' H' => H' a = none → D.bk (σ'.set i none) (upd H' a (excH a cls d)), ct := fun σ' H' => H' a = none → D.ct (σ'.set i none) (upd H' a (excH a cls d)) } (σ.set i (some (.ref a))) H) ∧
    (b = false → Wout cls d σ H)
section
variable {X : Cx} {x n : Str} {c : Value} {i : Nat} {body suite : List Stmt} {b₀ : Stmt} {np pos pos' : Pos} {tb : WX → TS} {ts : Addr → Value → Option Addr → TS} {Wout : WX}
theorem ps_try_asK (hs : X.stack = X.env :: X.outer) (hf : X.env.frame = some X.env.locals) (hN : X.N.Nodup) (hi : X.N[i]? = some n) (hln : X.env.kindOf n = some .local) (hc : Names X x c) (hex : X.ex = []) (tk : Takes X Wout)
    (hb : ∀ (W : WX) (pn : List (Addr × Obj)) (xe : Value → Shared → Prop), Takes (X.tr pn xe) W → PassesOwn (model X.prog X.w) X.A X.env xe → PSs (X.tr pn xe) body (tb W))
    (hsu : ∀ (a : Addr) (oe : Obj) (cls : Value) (d : Option Addr) (pn : List (Addr × Obj)), Zc cls d oe → (∃ vs, oe.data = .fields vs) → PSs (X.suite a ((a, oe) :: pn)) (b₀ :: suite) (ts a cls d)) :
    PS X (.Try body [.ExceptHandler (some (.Name x np)) (some n) (b₀ :: suite) pos'] [] [] pos) (fun D σ H => tb (wAsK X.K c i ts Wout D) D σ H) := by
  refine ⟨fun pins s σ H D I h => ?_⟩
  have ok := I.ok
  have hfr : X.A.frames = some (X.env :: X.outer) := by rw [ok.frames, hs]
  have hloc : Loc X.env.scope n := .inl hln
  refine wpAny_Try_except ?_
  refine wpAny_mono ((hb (wAsK X.K c i ts Wout D) (X.pn ++ pins) (fun e s₁ => wpAny (model X.prog X.w) X.A (noteFrame e X.env) (fun _ s₂ => wpAny (model X.prog X.w) X.A (setFlight e none) (fun _ s₃ =>
    wpAny (model X.prog X.w) X.A (handleBy e X.env [.ExceptHandler (some (.Name x np)) (some n) (b₀ :: suite) pos']) (SP X pins D) X.xe s₃) X.xe s₂) X.xe s₁) (fun u s' xx => ?_) PassesOwn.looking).run [] s σ H D (I.toTry _) h) (fun f s1 hsp => ?_) (fun e s1 he => he)
  · obtain ⟨a, B, sI, pins', σ', H', cls, d, rfl, J', nb, up, sky, na, os, ag, b, hb1, hyes, hno⟩ := xx
    have J : Inv X pins σ' H' sI := J'.ofTry ok
    have sky' : Sky B (X.env :: X.outer) a (Zc cls d) X.env.locals s'.heap := by rw [← hs]; exact sky
    have hBa : B.get? a = none := by
      rcases sky' with ⟨_, q, _⟩ | q | q
      · exact q
      · exact q.2.1
      · exact q.2.1
    show wpAny (model X.prog X.w) X.A (noteFrame (.ref a) X.env) _ _ _
    refine Sky.land Zc.steady hfr hf sky' fun h3 fl3 up3 => ?_
    have J3 : Inv X pins σ' H' { s' with heap := h3 } := J.landed nb fl3.1 (up.trans up3) os ag
    obtain ⟨oe3, vs3, he3, hz3, hd3⟩ := fl3.there
    have notFr : ∀ {h : Heap} {o : Obj} {vs : Array Value}, h.FunFrames B (X.env :: X.outer) → h.get? a = some o → o.data = .fields vs → a ∉ frs (X.env :: X.outer) := fun {h o vs} ff e dd hm => by
      obtain ⟨_, o', e', hnf⟩ := ff.mem hm
      rw [e] at e'; cases e'
      exact hnf _ dd
    have nfr := notFr fl3.2.2.1 he3 hd3
    have nL : a ≠ X.env.locals := fun z => nfr (List.mem_filterMap.mpr ⟨X.env, List.mem_cons_self, by rw [hf, z]⟩)
    have nF : a ∉ X.fs := fun hm => by
      obtain ⟨e, he, q⟩ := List.mem_filterMap.mp hm
      exact nfr (List.mem_filterMap.mpr ⟨e, List.mem_cons_of_mem _ he, q⟩)
    have sIa : sI.heap.get? a = none := by
      cases e : sI.heap.get? a with
      | none => rfl
      | some o =>
        have z := nb a o e (by rw [hs]; exact nfr)
        rw [hBa] at z; cases z
    have s0a : X.s_0.heap.get? a = none := by
      cases e : X.s_0.heap.get? a with
      | none => rfl
      | some o =>
        obtain ⟨o', z⟩ := J.base.there a o e (by rw [hex]; exact fun z => nomatch z)
        rw [sIa] at z; cases z
    have npn : ∀ p ∈ X.pn ++ pins, p.1 ≠ a := fun p hp z => by
      obtain ⟨q, _⟩ := J.pin p hp
      rw [z, sIa] at q; cases q
    have S3 := J3.suite he3 hd3 na nL nF
    refine wpAny_handleBy_cons (codeAny_handlers_test ?_) (by intro q; cases q)
    have LT : PySem.W.Looks (model X.prog X.w) h3 (typeOf (.ref a)) cls := fun A Q E s k q => wpAny_typeOf_ref (k _ _ he3) (by rw [hz3.1]; exact q)
    have LM := PySem.W.exm_one (M := model X.prog X.w) (J3.kIn) LT hb1
    have test : ∀ {Q : Value → Shared → Prop} {E : Value → Shared → Prop}, Q c { s' with heap := h3 } → wpAny (model X.prog X.w) (X.A.mark (some (.ref a))) (eval (.Name x np) X.env) Q E { s' with heap := h3 } := fun {Q E} q => by
      obtain ⟨hg, hdbg, hm | ⟨hm, hv, hnn⟩⟩ := hc
      · exact ld_glob (X := X.suite a ((a, oe3) :: (X.pn ++ pins))) S3 hg hm q hdbg
      · exact ld_blt (X := X.suite a ((a, oe3) :: (X.pn ++ pins))) S3 hg hm hv q hnn hdbg
    refine test (LM.here ?_)
    cases b with
    | true =>
      refine codeAny_handlers_suite_as ?_
      refine HandSPX.lands_againZ fl3 fun h4 fl4 up4 => ?_
      have J4 : Inv X pins σ' H' { s' with heap := h4 } := J.landed nb fl4.1 ((up.trans up3).trans up4) os ag
      obtain ⟨oe4, vs4, he4, hz4, hd4⟩ := fl4.there
      have S4 := J4.suite he4 hd4 na nL nF
      refine store_ok (X := X.suite a ((a, oe4) :: (X.pn ++ pins))) (v := .ref a) S4 hN hi hloc rfl (fun s5 S5 => ?_) (.inr hln)
      refine wpAny_mono ((hsu a oe4 cls d (X.pn ++ pins) hz4 ⟨_, hd4⟩).run [] s5 _ H' _ S5 (hyes rfl a na)) (fun f s6 hsp => ?_) (fun _ _ z => False.elim z)
      have end_ : ∀ {σ6 : L2.St} {H6 : Hp} {Q : Shared → Prop}, Inv (X.suite a ((a, oe4) :: (X.pn ++ pins))) [] σ6 H6 s6 → (H6 a = none → ∀ s7, Inv X pins (σ6.set i none) (upd H6 a (excH a cls d)) s7 → Q s7) →
          wpAny (model X.prog X.w) X.A (do bindName X.env n .none; unbindBehindTheSuite X.env n pos') (fun _ s7 => Q s7) X.xe s6 := fun {σ6 H6 Q} S6 hq => by
        obtain ⟨ga, na6, _, _, ncell⟩ := S6.pin (a, oe4) (List.mem_append_left _ List.mem_cons_self)
        have J6 : Inv X pins σ6 H6 s6 := S6.unsuite ok
        have nc : ∀ x c, X.env.cells.lookup x = some c → c ≠ a := fun x c e z => by
          obtain ⟨v, o, ho, hd⟩ := J6.cell x c e
          rw [z] at ho
          have ga' : s6.heap.get? a = some oe4 := ga
          rw [ga'] at ho
          cases ho
          exact ncell v hd
        exact gone_ok (G.Inv.track J6 na6 s0a nL nc npn (excH_ok ga hz4 hd4)) hN hi hln (hq na6)
      cases f with
      | next =>
        obtain ⟨σ6, H6, S6, q6⟩ := hsp
        exact end_ S6 fun n6 s7 J7 => ⟨_, _, J7, q6 n6⟩
      | brk =>
        obtain ⟨σ6, H6, S6, q6⟩ := hsp
        exact end_ S6 fun n6 s7 J7 => ⟨_, _, J7, q6 n6⟩
      | cont =>
        obtain ⟨σ6, H6, S6, q6⟩ := hsp
        exact end_ S6 fun n6 s7 J7 => ⟨_, _, J7, q6 n6⟩
      | ret u =>
        obtain ⟨v6, σ6, H6, S6, r6, q6⟩ := hsp
        exact end_ S6 fun n6 s7 J7 => ⟨_, _, _, J7, r6, q6 n6⟩
    | false =>
      show wpAny _ X.A (handleBy (.ref a) X.env []) _ _ _
      refine wpAny_handleBy_nil ?_
      obtain ⟨k1, k2, k3, oe, vs, T, oT, ts', he, hz, hd, h1, hr⟩ := id fl3
      unfold PySem.passOn
      refine wpAny_bind (wpAny_field he hd h1 ?_)
      rw [if_neg (show ¬ ((Value.ref T == Value.none) = true) from by simp)]
      have fin : wpAny (model X.prog X.w) X.A (setFlight (.ref a) X.env.frame) (fun _ s4 => wpAny (model X.prog X.w) X.A (throw (.ref a) : Sem Flow) (SP X pins D) X.xe s4) X.xe { s' with heap := h3 } := by
        rw [hf]
        refine HandSPX.setFlight_upZ fl3 fun h4 hh4 up4 => wpAny_throw (tk _ _ ?_)
        exact ⟨a, B, sI, pins, σ', H', cls, d, rfl, J, nb, (up.trans up3).trans up4, .inr (.inr (by rw [hs]; exact hh4)), na, os, ag, hno rfl⟩
      first
        | exact wpAny_bind (wpAny_pure (wpAny_bind fin))
        | exact wpAny_bind fin
  · cases f with
    | next =>
      obtain ⟨σ', H', J', q⟩ := hsp
      exact wpAny_execs_nil ⟨σ', H', J'.ofTry ok, q⟩
    | brk =>
      obtain ⟨σ', H', J', q⟩ := hsp
      exact ⟨σ', H', J'.ofTry ok, q⟩
    | cont =>
      obtain ⟨σ', H', J', q⟩ := hsp
      exact ⟨σ', H', J'.ofTry ok, q⟩
    | ret u =>
      obtain ⟨v, σ', H', J', r, q⟩ := hsp
      exact ⟨v, σ', H', J'.ofTry ok, r, q⟩
end
/-! ### what is asked of it -/
/-- what the class D must say, so that isinstance asks its instances rightly -/
structure IsEC (K : PySem.W.Frag) (D : Addr) : Prop where
  hc : PySem.W.isClsIn K D = true
  hg : PySem.W.findIn K (.ref D) "__getattribute__" = some (some (.builtin "BaseException.__getattribute__"))
  hk : PySem.W.findIn K (.ref D) "__getattr__" = some none
  hs : PySem.W.subIn K (.ref D) (.type "BaseException") = some true
  ha : PySem.W.findIn K (.ref D) "__class__" = some (some (.builtin "object.__class__"))
  hn : PySem.W.specialIn K (.builtin "object.__class__") "__get__" = some (some (.builtin "getset_descriptor.__get__"))
  ht : PySem.W.takesIn K (.builtin "object.__class__") = some true
  hm : PySem.W.mroIn K D (.type "object") = some true
/-- the exception at a stands, its class at D, its dict -/
def ExcAt (H : Hp) (a D : Addr) (d : Option (Addr × List (Str × V))) : Prop := H a = some (excH a (.ref D) (d.map (·.1))) ∧ ∀ p, d = some p → H p.1 = some (.xd p.2)
theorem ExcAt.inst {P : Program} {w : World} {H : Hp} {h : Heap} {a D : Addr} {d : Option (Addr × List (Str × V))} (x : ExcAt H a D d) (hok : HOk P w H h) : ∃ ox od, PySem.W.InstAt h a ox D od ∧
    match d with
    | none => od = none
    | some p => ∃ (o : Obj) (mA : Str → Option Value), od = some o ∧ (∀ m, PySem.W.lookIn m o = some (mA m)) ∧ ∀ f, RelO (p.2.lookup f) (mA f) := by
  obtain ⟨h1, h2⟩ := x
  obtain ⟨o, vs, e1, ⟨e2, e4⟩, e3⟩ := excH_at hok h1
  have hno : PySem.W.notCls o = true := by unfold PySem.W.notCls; rw [e3] <;> rfl
  cases d with
  | none => exact ⟨o, none, ⟨e1, e2, hno, by rw [e4]; trivial⟩, rfl⟩
  | some p =>
    have hx : ObjOk P w H h p.1 (.xd p.2) := hok p.1 _ (h2 p rfl)
    obtain ⟨mA, hns, hr⟩ := hx
    obtain ⟨od, ho, hl⟩ := lookIn_ns hns
    exact ⟨o, some od, ⟨e1, e2, hno, by rw [e4]; exact ho⟩, od, mA, rfl, hl, hr⟩
def rIsX (K : PySem.W.Frag) : List V → Hp → VK → Prop := fun xs H Q => ∃ (a D : Addr) (d : Option (Addr × List (Str × V))) (c : V) (cv : Value) (b : Bool), xs = [.ref a, c] ∧ ExcAt H a D d ∧ IsEC K D ∧ (∀ u, RelV c u → u = cv) ∧ PySem.W.kitOne K (.ref D) cv = some b ∧ Q (.bl b) H
theorem call_isX {X : Cx} : CallR X (.builtin "isinstance") (rIsX X.K) := by
  intro pins s σ H xs us Q I r h
  obtain ⟨a, D, d, c, cv, b, rfl, hx, C, hcv, e, q⟩ := h
  cases r with
  | cons rx rr =>
    cases rr with
    | cons rt rr =>
      cases rr
      cases rx
      have ec := hcv _ rt
      subst ec
      obtain ⟨ox, od, J, _⟩ := hx.inst I.hok
      exact PySem.W.kia_one (PySem.W.kitx_exc C.hc C.hg C.hk C.hs C.ha C.hn C.ht C.hm) I.kIn J e (fun z => nomatch z) fun tk => ⟨.bl b, H, I.kept (t' := tk) fun _ _ z => z, rfl, q⟩
theorem oIsX {X : Cx} {K : PySem.W.Frag} (hK : X.K = K := by rfl) : CallR X (.builtin "isinstance") (rIsX K) := by subst hK; exact call_isX
/-- e.f, e an exception that is kept -/
def tFldX (K : PySem.W.Frag) (te : TE) (f : Str) : TE := fun σ H Q => te σ H fun x H1 => ∃ (a D dd : Addr) (fs : List (Str × V)) (v : V), x = .ref a ∧ ExcAt H1 a D (some (dd, fs)) ∧ XfC K D ∧ PySem.W.findIn K (.ref D) f = some none ∧ fs.lookup f = some v ∧ Q v H1
theorem pe_fldX {X : Cx} {K : PySem.W.Frag} {e : Expr} {te : TE} {f : Str} {pos : Pos} (he : PE X e te) (hK : X.K = K := by rfl) (hb : attributeBase e f X.env (eval e X.env) = eval e X.env := by rfl) : PE X (.Attribute e f pos) (tFldX K te f) := by
  subst hK
  refine ⟨fun pins s σ H Q I h => ?_⟩
  refine attr_of hb (thn (he.run pins s σ H _ I h) fun u s1 hh => ?_)
  obtain ⟨x, H1, I1, rx, a, D, dd, fs, v, ex, hx, T, hno, l, q⟩ := hh
  subst ex
  obtain rfl : u = Value.ref a := rx
  obtain ⟨ox, od, J, o, mA, rfl, hl, hr⟩ := hx.inst I1.hok
  obtain ⟨u, hu, ru⟩ := RelO.some_of (v := v) (o := mA f) (by rw [← l]; exact hr f)
  exact HandSPX.exc_get I1.kIn J T.ga T.gg T.exC (PySem.W.findObj_own T.hdC hno rfl (by rw [hl, hu])) (handed_of ru) ⟨v, H1, I1.tok _, ru, q⟩
end G

namespace G
open PySem PySem.Spec PyProof.Rows L2 TL RZ

/-! ### the program's own exceptions: MergeError over ValueError, the others straight under it -/
structure ExcF (K : PySem.W.Frag) (C CE : Addr) : Prop where
  kp : PySem.W.keepIn K (.ref C) = true
  ex : PySem.W.subIn K (.ref C) (.type "BaseException") = some true
  ty : PySem.W.typeIn K (.ref C) = some (.type "type")
  hd : PySem.W.hasDictIn K C = true
  cl : PySem.W.isClsIn K C = true
  ga : PySem.W.findIn K (.ref C) "__getattribute__" = some (some (.builtin "BaseException.__getattribute__"))
  gg : PySem.W.findIn K (.ref C) "__getattr__" = some none
  kc : PySem.W.findIn K (.ref C) "__class__" = some (some (.builtin "object.__class__"))
  ob : PySem.W.mroIn K C (.type "object") = some true
  ve : PySem.W.subIn K (.ref C) (.type "ValueError") = some true
  me : PySem.W.subIn K (.ref C) (.ref CE) = some true
  se : PySem.W.subIn K (.ref C) (.ref C) = some true
abbrev veT : List Value := [.type "ValueError", .type "Exception", .type "BaseException", .type "object"]
structure TxtE (K : PySem.W.Frag) (mg : Str → Option Value) (CE CF CN CO CB : Addr) : Prop where
  gE : mg "MergeError" = some (.ref CE)
  gF : mg "Full" = some (.ref CF)
  gN : mg "NoRow" = some (.ref CN)
  gO : mg "OutOfOrder" = some (.ref CO)
  gB : mg "BadLine" = some (.ref CB)
  vE : mg "ValueError" = none
  fE : ExcF K CE CE
  fF : ExcF K CF CE
  fN : ExcF K CN CE
  fO : ExcF K CO CE
  fB : ExcF K CB CE
  xF : PySem.W.excIn K CF veT "ValueError.__new__" = true
  xN : PySem.W.excIn K CN veT "ValueError.__new__" = true
  me : MeI K mg "MergeError" CE
  oO : OexC K CO
  oB : OexC K CB
  nR : PySem.W.findIn K (.ref CO) "row" = some none
  nP : PySem.W.findIn K (.ref CO) "place" = some none
  nL : PySem.W.findIn K (.ref CB) "line" = some none
  cn : PySem.W.specialIn K (.builtin "object.__class__") "__get__" = some (some (.builtin "getset_descriptor.__get__"))
  ct : PySem.W.takesIn K (.builtin "object.__class__") = some true
  FN : PySem.W.subIn K (.ref CF) (.ref CN) = some false
  FO : PySem.W.subIn K (.ref CF) (.ref CO) = some false
  FB : PySem.W.subIn K (.ref CF) (.ref CB) = some false
  NF : PySem.W.subIn K (.ref CN) (.ref CF) = some false
  NO : PySem.W.subIn K (.ref CN) (.ref CO) = some false
  NB : PySem.W.subIn K (.ref CN) (.ref CB) = some false
  OF : PySem.W.subIn K (.ref CO) (.ref CF) = some false
  ON : PySem.W.subIn K (.ref CO) (.ref CN) = some false
  OB : PySem.W.subIn K (.ref CO) (.ref CB) = some false
  BF : PySem.W.subIn K (.ref CB) (.ref CF) = some false
  BN : PySem.W.subIn K (.ref CB) (.ref CN) = some false
  BO : PySem.W.subIn K (.ref CB) (.ref CO) = some false
section
variable {K : PySem.W.Frag} {mg : Str → Option Value} {CE CF CN CO CB C D : Addr} {b : Bool}
theorem ExcF.isEC (x : ExcF K C CE) (h1 : PySem.W.specialIn K (.builtin "object.__class__") "__get__" = some (some (.builtin "getset_descriptor.__get__"))) (h2 : PySem.W.takesIn K (.builtin "object.__class__") = some true) : IsEC K C :=
  ⟨x.cl, x.ga, x.gg, x.ex, x.kc, h1, h2, x.ob⟩
theorem ExcF.xf (x : ExcF K C CE) : XfC K C := ⟨x.ga, x.gg, x.ex, x.hd⟩
theorem ExcF.exm (y : ExcF K CE CE) (x : ExcF K C CE) : PySem.W.exmOne K (.ref C) (.ref CE) = some true := by
  obtain ⟨cd, hc⟩ := Option.isSome_iff_exists.mp (show (PySem.W.clsIn K CE).isSome = true from y.cl)
  have e1 : (PySem.W.subIn K (.ref CE) (.type "BaseException") == some true) = true := by rw [y.ex] <;> rfl
  have e2 : ((PySem.W.clsIn K CE).isSome && PySem.W.typeIn K (.ref CE) == some (.type "type")) = true := by rw [hc, y.ty] <;> rfl
  show (if (PySem.W.subIn K (.ref CE) (.type "BaseException") == some true) = true then (if ((PySem.W.clsIn K CE).isSome && PySem.W.typeIn K (.ref CE) == some (.type "type")) = true then PySem.W.subIn K (.ref C) (.ref CE) else none) else none) = some true
  rw [if_pos e1, if_pos e2]
  exact x.me
theorem kit_sub (y : ExcF K D CE) (x : ExcF K C CE) (h : PySem.W.subIn K (.ref C) (.ref D) = some b) : PySem.W.kitOne K (.ref C) (.ref D) = some b := by
  unfold PySem.W.kitOne
  by_cases e : ((Value.ref C) == (Value.ref D)) = true
  · rw [if_pos e]
    have e' : C = D := Value.ref.inj (beq_iff_eq.mp e)
    subst e'
    rw [x.se] at h
    exact h
  · rw [if_neg e]
    obtain ⟨cd, hc⟩ := Option.isSome_iff_exists.mp (show (PySem.W.clsIn K D).isSome = true from y.cl)
    have e2 : ((PySem.W.clsIn K D).isSome && PySem.W.typeIn K (.ref D) == some (.type "type")) = true := by rw [hc, y.ty] <;> rfl
    show (if ((PySem.W.clsIn K D).isSome && PySem.W.typeIn K (.ref D) == some (.type "type")) = true then PySem.W.subIn K (.ref C) (.ref D) else none) = some b
    rw [if_pos e2]; exact h
theorem kit_ve (x : ExcF K C CE) : PySem.W.kitOne K (.ref C) (.type "ValueError") = some true := by
  unfold PySem.W.kitOne
  rw [if_neg (show ¬ ((Value.ref C) == (Value.type "ValueError")) = true from fun e => nomatch beq_iff_eq.mp e)]
  show (if PySem.W.kitMeta "ValueError" = true then PySem.W.subIn K (.ref C) (.type "ValueError") else none) = some true
  rw [if_pos (by decide +kernel)]; exact x.ve
end
/-! an own exception's __init__, and the raising of it -/
structure HasE (P : Program) (w : World) (K : PySem.W.Frag) (mg : Str → Option Value) (base : Heap) (k : Nat) (C : Addr) (ps : List Str) (sp : Sp) : Prop where
  ex : ∃ (f : Addr) (fd : FuncData), PySem.W.findIn K (.ref C) "__init__" = some (some (.ref f)) ∧ PySem.W.typeIn K (.ref f) = some (.type "function") ∧ Binds K fd ps [] ∧ FnG P w K mg base CX0 k f fd ps sp
/-- __init__ of such an exception: the fields that it gets of its arguments -/
def spEi (C : Addr) (mk : List V → Option (List (Str × V))) : Sp := fun vs H Q _ => ∃ (a : Addr) (ws : List V) (fs : List (Str × V)), vs = .ref a :: ws ∧ mk ws = some fs ∧ H a = some (exo a C none) ∧
  ∀ d H', H d = none → d ≠ a → H' a = some (exo a C (some d)) → H' d = some (exd d fs) → (∀ b, b ≠ a → b ≠ d → H' b = H b) → Q .non H'
def tExc (C : Addr) (mk : List V → Option (List (Str × V))) (ta : TA) : L2.St → Hp → XK → Prop := fun σ H Q => ta σ H fun vs H1 => vs.length ≤ 1000 ∧ ∃ fs, mk vs = some fs ∧ ∀ d, H1 d = none → Q (.ref C) (some d) (upd H1 d (.xd fs))
section
variable {X : Cx} {C : Addr} {k : Nat} {x : Str} {ps : List Str} {mk : List V → Option (List (Str × V))} {p pos : Pos} {e : Expr} {es : List Expr} {ta : TA}
theorem pmk_exc (T : OexC X.K C) (h : HasE X.prog X.w X.K X.mg X.base k C ps (spEi C mk)) (hr : RoomG (k + 1) X.A) (hg : Gl X x) (hm : X.mg x = some (.ref C)) (ha : PA X (e :: es) ta)
    (hdb : (x == ("__debug__" : Str)) = false := by decide) (he : starEach (e :: es) X.env = (false, eval e X.env) :: starEach es X.env := by rfl) (hpl : (backTo pos (starEach es X.env)).any (·.1) = false := by rfl) :
    PMk X (.Call (.Name x p) (e :: es) [] pos) (tExc C mk ta) := by
  obtain ⟨fI, fd, iC, tI, hb, F1⟩ := h
  intro pins s σ H Q I h
  have T' := T
  obtain ⟨nm, q, N, bs, bm, sn, sub, ab, col, dd, k0, k1, k2, k3, k5, hC, hbm⟩ := T.cls
  refine wpAny_Call_Name_kw (ld_glob I hg hm ?_ hdb)
  refine PySem.W.callWith_K (h₀ := X.base) I.ok.mod.kin T.kC (thn (ha.run pos pins s σ H _ I h) fun us s1 ⟨vs, H1, I1, r1, hz, fs, hmk, q1⟩ => ⟨I1.kIn, ?_⟩) he hpl
  show wpAny _ _ (call (.ref C) us) _ _ _
  obtain ⟨hp, g, dr, tk, os⟩ := s1
  have hsz : hp.objs.size ≤ hp.objs.size + 1 := Nat.le_succ _
  have hn : H1 (hp.objs.size + 1) = none := I1.hok.fresh hsz
  have hq : spEi C mk (V.ref (hp.objs.size + 1) :: vs) (upd H1 (hp.objs.size + 1) (exo (hp.objs.size + 1) C none))
      (fun v H2 => v = .non ∧ ∃ (d : Addr) (fs : List (Str × V)), H2 (hp.objs.size + 1) = some (exo (hp.objs.size + 1) C (some d)) ∧ H2 d = some (exd d fs) ∧ H1 d = none ∧ Q (.ref C) (some d) (upd (del H2 (hp.objs.size + 1)) d (.xd fs))) (fun _ _ _ => False) := by
    refine ⟨_, vs, fs, rfl, hmk, upd_same, fun d H' nd ne ea ed eo => ⟨rfl, d, fs, ea, ed, ?_, ?_⟩⟩
    · rw [upd_ne ne] at nd; exact nd
    · rw [upd_ne ne] at nd
      have e : upd (del H' (hp.objs.size + 1)) d (.xd fs) = upd H1 d (.xd fs) := by
        funext b
        by_cases hb : b = d
        · rw [hb, upd_same, upd_same]
        · rw [upd_ne hb, upd_ne hb]
          by_cases hb2 : b = hp.objs.size + 1
          · rw [hb2, del_same, hn]
          · rw [del_ne hb2, eo b hb2 hb, upd_ne hb2]
      rw [e]
      exact q1 d nd
  have kk : ∀ b o, hp.get? b = some o → ((hp.push (PySem.W.kdv_tup us)).push (PySem.HandSPX.excO C hp.objs.size)).get? b = some o := fun b o e => Heap.get?_push_of_some _ (Heap.get?_push_of_some _ e)
  have hget : ((hp.push (PySem.W.kdv_tup us)).push (PySem.HandSPX.excO C hp.objs.size)).get? (hp.objs.size + 1) = some (PySem.HandSPX.excO C hp.objs.size) := by heap_get
  have I2 : Inv X pins σ (upd H1 (hp.objs.size + 1) (exo (hp.objs.size + 1) C none)) ⟨(hp.push (PySem.W.kdv_tup us)).push (PySem.HandSPX.excO C hp.objs.size), g, dr, tk, os⟩ :=
    I1.laid (t' := tk) (a := hp.objs.size + 1) (o := exo (hp.objs.size + 1) C none) (h' := (hp.push (PySem.W.kdv_tup us)).push (PySem.HandSPX.excO C hp.objs.size)) kk hsz (exo_ok hget)
  have r2 : Vals (V.ref (hp.objs.size + 1) :: vs) (Value.ref (hp.objs.size + 1) :: us) := .cons rfl r1
  have hl : (Value.ref (hp.objs.size + 1) :: us ++ []).length = ps.length := by
    have e := r2.length
    rw [F1.len _ _ _ _ hq] at e
    rw [List.append_nil]
    exact e.symm
  have hus : us.length ≤ sizeLine := by
    rw [← Paired.length r1, sizeLine_eq]
    omega
  have b2 := hb _ (Value.ref (hp.objs.size + 1) :: us) I2.kIn hl
  rw [List.append_nil] at b2
  refine wpAny_call (PySem.HandSPX.call_own F.excBase_ValueError (fun Y => PySem.HandSPX.refsVE_contains Y bm hbm) (I1.kIn _ _ hC) (PySem.W.looks_findIn I1.kIn iC) (fun self => PySem.W.bind_fn I1.kIn self tI) hus
    (codeAny_mono (F1.run _ X.stack _ _ ⟨Value.ref (hp.objs.size + 1) :: us, []⟩ (Value.ref (hp.objs.size + 1) :: us) _ _ (fun _ _ _ => False) (hr.make C us []) (I2.env0.make C us []) b2 r2 hq) fun r s' hq' => ?_))
  match r, hq' with
  | .error er, hq' => exact pass0 (X := X) pins σ _ _ er s' I2 hq'
  | .ok (.ret u), hq' =>
    obtain ⟨v, H2, os2, bare2, un2, hok2, rv, ev, d, fs, ea, ed, hd1, q2⟩ := hq'
    subst ev
    obtain ⟨h2, g2, d2, t2, os'⟩ := s'
    exact ⟨rv, mk_end (raises_own T'.exC T'.tyC) I1 hsz kk un2 hok2 os2 bare2 ea ed hd1 q2⟩
  | .ok .next, hq' => exact hq'.elim
  | .ok .brk, hq' => exact hq'.elim
  | .ok .cont, hq' => exact hq'.elim
end
/-! steps -/
section
variable {K : PySem.W.Frag} {C : Addr} {f m : Str} {H : Hp} {Q : VK} {Qx : XK} {σ : L2.St} {ta te to : TE} {t : TA} {sp : Sp} {D : Ends} {E : L2.St → XK} {mk : List V → Option (List (Str × V))}
def ClS (sp : Sp) (E : XK) (Q : VK) (vs : List V) (H1 : Hp) : Prop := sp vs H1 Q E
theorem g_callS (h : t σ H (ClS sp (E σ) Q)) : tCallS sp E t σ H Q := h
def MetS (C : Addr) (m : Str) (sp : Sp) (E : XK) (t : TA) (σ : L2.St) (Q : VK) (x : V) (H1 : Hp) : Prop := ∃ a dx fs, x = .ref a ∧ H1 a = some (.ins C dx fs) ∧ fs.lookup m = none ∧ t σ H1 fun vs H2 => sp (x :: vs) H2 Q E
theorem g_methS (h : ta σ H (MetS C m sp (E σ) t σ Q)) : tMethS C m sp E ta t σ H Q := h
theorem metS_at {a dx : Addr} {fs : List (Str × V)} {E : XK} (h : H a = some (.ins C dx fs)) (l : fs.lookup m = none) (q : t σ H (ClS (fun vs H2 Q E => sp (.ref a :: vs) H2 Q E) E Q)) : MetS C m sp E t σ Q (.ref a) H := ⟨a, dx, fs, rfl, h, l, q⟩
def MakS (C : Addr) (sp : Sp) (E : XK) (Q : VK) (vs : List V) (H1 : Hp) : Prop := ∀ x dx, H1 x = none → H1 dx = none → dx ≠ x → sp (.ref x :: vs) (upd (upd H1 dx (.own x)) x (.ins C dx [])) (fun v H2 => v = .non ∧ Q (.ref x) H2) E
theorem g_makeS (h : t σ H (MakS C sp (E σ) Q)) : tMakeS C sp E t σ H Q := h
def ExR (C : Addr) (mk : List V → Option (List (Str × V))) (Q : XK) (vs : List V) (H1 : Hp) : Prop := vs.length ≤ 1000 ∧ ∃ fs, mk vs = some fs ∧ ∀ d, H1 d = none → Q (.ref C) (some d) (upd H1 d (.xd fs))
def VeR (K : PySem.W.Frag) (Q : VK) (vs : List V) (H1 : Hp) : Prop := ∃ (a C : Addr) (ws : List V), vs = .ref a :: ws ∧ ws.length ≤ 1000 ∧ OexC K C ∧ H1 a = some (exo a C none) ∧ Q .non H1
theorem g_ve (h : t σ H (VeR K Q)) : tVeI K t σ H Q := h
def OstO (K : PySem.W.Frag) (f : Str) (D : Ends) (σ : L2.St) (y x : V) (H2 : Hp) : Prop := ∃ a C : Addr, x = .ref a ∧ OexC K C ∧ PySem.W.findIn K (.ref C) f = some none ∧
  ((H2 a = some (exo a C none) ∧ ∀ dx, H2 dx = none → dx ≠ a → D.nx σ (upd (upd H2 dx (exd dx [(f, y)])) a (exo a C (some dx)))) ∨
    ∃ (dx : Addr) (fs : List (Str × V)), H2 a = some (exo a C (some dx)) ∧ H2 dx = some (exd dx fs) ∧ fs.length ≤ 900 ∧ D.nx σ (upd H2 dx (exd dx ((f, y) :: fs))))
def OstV (K : PySem.W.Frag) (f : Str) (to : TE) (D : Ends) (σ : L2.St) (y : V) (H1 : Hp) : Prop := to σ H1 (OstO K f D σ y)
theorem g_ost (h : te σ H (OstV K f to D σ)) : tOst K f to te D σ H := h
theorem g_ostV {y : V} (h : to σ H (OstO K f D σ y)) : OstV K f to D σ y H := h
theorem g_exc (h : t σ H (ExR C mk Qx)) : tExc C mk t σ H Qx := h
end
end G

namespace G
open PySem PySem.Spec PyProof.Rows L2 TL RZ

/-! ### list.count, flat items -/
section
variable {X : Cx}
def rCntF (K : PySem.W.Frag) : V → List V → Hp → VK → Prop := fun x xs H Q => ∃ (p : Addr) (ys : List V) (y : V), x = .ref p ∧ xs = [y] ∧ SqL K H p ys ∧ flatV y = true ∧ ys.all flatV = true ∧ Q (.int ((ys.countP fun z => eqV z y : Nat) : Int)) H
theorem countP_flat {y : V} : ∀ {ys : List V} {us : List Value}, Vals ys us → ys.all flatV = true → us.countP (eqU y) = ys.countP fun z => eqV z y
  | _, _, .nil, _ => rfl
  | _, _, .cons r t, f => by
    rw [List.all_cons, Bool.and_eq_true] at f
    rw [List.countP_cons, List.countP_cons, countP_flat t f.2, eqU_of r f.1]
theorem mt_countF : MtR X "list.count" (rCntF X.K) := by
  intro pins s σ H x xs v us Q I rx rxs h
  obtain ⟨p, ys, y, rfl, rfl, hs, fy, fys, q⟩ := h
  cases rx
  cases rxs with
  | cons ry rt =>
    rename_i uy ut
    cases rt
    obtain ⟨its, rv, ⟨⟨cls, dd, data, sl⟩, n, ho, hc, hdn, hd⟩, hlen⟩ := I.list hs
    simp only at hc hd
    subst hc hd
    refine call_meets PySem.F.slot_list_count ⟨_, ho, rfl⟩ PySem.F.entry_list_count (PySem.F.args_list_count_2 _ _)
      (SeqAt.list_countAt p its.toArray n dd sl uy (eqU y)) ⟨ho, fun u' hu' => mem_eqAt ry fy rv fys u' (by simpa using hu'), ?_⟩
    have ec : its.toArray.toList.countP (eqU y) = ys.countP fun z => eqV z y := countP_flat rv fys
    refine ⟨.int ((ys.countP fun z => eqV z y : Nat) : Int), H, I.tok _, ⟨s.toks, ?_⟩, q⟩
    show Value.int ((its.toArray.toList.countP (eqU y) : Nat) : Int) s.toks = Value.int ((ys.countP fun z => eqV z y : Nat) : Int) s.toks
    rw [ec]
theorem oCountF {K : PySem.W.Frag} (hK : X.K = K := by rfl) : MtR X "list.count" (rCntF K) := by subst hK; exact mt_countF
end
theorem cnt_is {K : PySem.W.Frag} {H : Hp} {Q : VK} {p : Addr} {ys : List V} {y : V} {n : Nat} (h : H p = some (.lst ys)) (fy : flatV y = true) (fs : ys.all flatV = true) (e : (ys.countP fun z => eqV z y) = n) (q : Q (.int (n : Int)) H) : rCntF K (.ref p) [y] H Q :=
  ⟨p, ys, y, rfl, rfl, .inl (.inl h), fy, fs, by rw [e]; exact q⟩
/-! what an exception's reader asks -/
section
variable {K : PySem.W.Frag} {H : Hp} {Q : VK} {a D : Addr} {d : Option (Addr × List (Str × V))} {C CE : Addr} {b : Bool}
theorem isX_own (x : ExcAt H a D d) (c : IsEC K D) (k : PySem.W.kitOne K (.ref D) (.ref C) = some b) (q : Q (.bl b) H) : rIsX K [.ref a, .ref C] H Q := ⟨a, D, d, .ref C, .ref C, b, rfl, x, c, fun _ h => h, k, q⟩
theorem isX_ve (x : ExcAt H a D d) (c : IsEC K D) (k : PySem.W.kitOne K (.ref D) (.type "ValueError") = some b) (q : Q (.bl b) H) : rIsX K [.ref a, .ty "ValueError"] H Q := ⟨a, D, d, .ty "ValueError", .type "ValueError", b, rfl, x, c, fun _ h => h, k, q⟩
def FldXR (K : PySem.W.Frag) (f : Str) (Q : VK) (x : V) (H1 : Hp) : Prop := ∃ (a D dd : Addr) (fs : List (Str × V)) (v : V), x = .ref a ∧ ExcAt H1 a D (some (dd, fs)) ∧ XfC K D ∧ PySem.W.findIn K (.ref D) f = some none ∧ fs.lookup f = some v ∧ Q v H1
theorem g_fldX {f : Str} {te : TE} {σ : L2.St} (h : te σ H (FldXR K f Q)) : tFldX K te f σ H Q := h
theorem ExcAt.mono {H' : Hp} (x : ExcAt H a D d) (s : Same H H') : ExcAt H' a D d := ⟨s _ _ x.1, fun p hp => s _ _ (x.2 p hp)⟩
/-- the exception is known from now on -/
theorem Pu.exc {B0 H0 B : Hp} (S : Pu B0 H0 B H) (n : H a = none) (hd : ∀ p, d = some p → B p.1 = some (.xd p.2)) : Pu B0 H0 (upd B a (excH a (.ref D) (d.map (·.1)))) (upd H a (excH a (.ref D) (d.map (·.1)))) ∧ ExcAt (upd B a (excH a (.ref D) (d.map (·.1)))) a D d := by
  refine ⟨S.alloc n, upd_same, fun p hp => ?_⟩
  rw [upd_ne fun z => by
    have := S.sub _ _ (hd p hp)
    rw [z, n] at this; cases this]
  exact hd p hp
end
end G

namespace G
open PySem PySem.Spec PyProof.Rows L2 TL RZ

/-! ### an exception that is made and kept, never raised -/
def tMkV (t : L2.St → Hp → XK → Prop) : TE := fun σ H Q => t σ H fun cls d H' => ∀ a, H' a = none → Q (.ref a) (upd H' a (excH a cls d))
theorem pe_of_mk {X : Cx} {e : Expr} {t : L2.St → Hp → XK → Prop} (hex : X.ex = []) (he : PMk X e t) : PE X e (tMkV t) := by
  refine ⟨fun pins s σ H Q I h => thn (he pins s σ H _ I h) fun u s' hu => ?_⟩
  obtain ⟨a, oe, vs, sI, H', cls, d, rfl, J, k, hne, ha, hz, hd, h1, na, os, ag, r, q⟩ := hu
  have s0a : X.s_0.heap.get? a = none := by
    cases e : X.s_0.heap.get? a with
    | none => rfl
    | some o =>
      obtain ⟨o', z⟩ := J.base.there a o e (by rw [hex]; exact fun z => nomatch z)
      rw [hne] at z; cases z
  have nc : ∀ x c, X.env.cells.lookup x = some c → c ≠ a := fun x c e z => by
    obtain ⟨v, o, ho, hd⟩ := J.cell x c e
    rw [z, hne] at ho; cases ho
  have nL : a ≠ X.env.locals := fun z => by
    obtain ⟨m, ⟨o, es, ep, e1, _⟩, _⟩ := J.loc
    rw [← z, hne] at e1; cases e1
  have npn : ∀ p ∈ X.pn ++ pins, p.1 ≠ a := fun p hp z => by
    obtain ⟨q, _⟩ := J.pin p hp
    rw [z, hne] at q; cases q
  have J2 := J.call' os (Un.kept k) (J.hok.kept k) ag (ch := []) (fun _ z => nomatch z)
  exact ⟨.ref a, _, G.Inv.track J2 na s0a nL nc npn (excH_ok ha hz hd), rfl, q a na⟩
theorem g_par3 {i j l : Nat} {ta : TA} {σ : L2.St} {H : Hp} {n b c : L2.St → Hp → Prop} {r : VK} (h : ta σ H fun vs H1 => ∃ u v w, vs = [u, v, w] ∧ n (((σ.set i (some u)).set j (some v)).set l (some w)) H1) : tPar3 i j l ta ⟨n, r, b, c⟩ σ H := h
theorem par3_at {x y z : V} {P : V → V → V → Prop} (h : P x y z) : ∃ u v w, [x, y, z] = [u, v, w] ∧ P u v w := ⟨x, y, z, rfl, h⟩
def MkVR (Q : VK) : XK := fun cls d H' => ∀ a, H' a = none → Q (.ref a) (upd H' a (excH a cls d))
theorem g_mkV {t : L2.St → Hp → XK → Prop} {σ : L2.St} {H : Hp} {Q : VK} (h : t σ H (MkVR Q)) : tMkV t σ H Q := h
/-- a new exception, known from now on -/
theorem Pu.mkV {B0 H0 B H : Hp} {Q : VK} {D : Addr} {d : Option (Addr × List (Str × V))} (S : Pu B0 H0 B H) (hd : ∀ p, d = some p → B p.1 = some (.xd p.2))
    (q : ∀ a B' H', Pu B0 H0 B' H' → Same B B' → ExcAt B' a D d → Q (.ref a) H') : MkVR Q (.ref D) (d.map (·.1)) H := fun a na => by
  obtain ⟨S2, hx⟩ := Pu.exc (D := D) S na hd
  exact q a _ _ S2 (Same.updN (S.free na)) hx
theorem St.mkV {a0 : Addr} {n : Nat} {B0 H0 B H : Hp} {Q : VK} {D : Addr} {d : Option (Addr × List (Str × V))} (S : St a0 B0 H0 n B H) (hd : ∀ p, d = some p → B p.1 = some (.xd p.2))
    (q : ∀ a B' H', St a0 B0 H0 n B' H' → Oth a0 B H B' H' → Same B B' → ExcAt B' a D d → Q (.ref a) H') : MkVR Q (.ref D) (d.map (·.1)) H := fun a na =>
  q a (upd B a (excH a (.ref D) (d.map (·.1)))) (upd H a (excH a (.ref D) (d.map (·.1)))) (S.alloc na) ⟨fun q u _ e => Same.updN na q u e, fun q hq => upd_ne fun z => hq (z ▸ na)⟩ (Same.updN (S.free na)) ⟨upd_same, fun p hp => Same.updN (S.free na) _ _ (hd p hp)⟩
theorem St.xd {a0 : Addr} {n : Nat} {B0 H0 B H : Hp} {fs : List (Str × V)} {C : Addr} {mk : List V → Option (List (Str × V))} {Qx : XK} {vs : List V} (S : St a0 B0 H0 n B H) (hl : vs.length ≤ 1000) (hm : mk vs = some fs)
    (q : ∀ d B' H', St a0 B0 H0 n B' H' → Oth a0 B H B' H' → Same B B' → B' d = some (.xd fs) → Qx (.ref C) (some d) H') : ExR C mk Qx vs H :=
  ⟨hl, fs, hm, fun d nd => q d _ _ (S.alloc nd) ⟨fun q u _ e => Same.updN nd q u e, fun q hq => upd_ne fun z => hq (z ▸ nd)⟩ (Same.updN (S.free nd)) upd_same⟩
theorem dts_bls {B : Hp} : ∀ bs : List Bool, Dts B (bs.map V.bl) (bs.map PyData.bool)
  | [] => .nil
  | b :: bs => .cons (.bl b) (dts_bls bs)
theorem ne_bls {K : PySem.W.Frag} {B H : Hp} {p q : Addr} {Q : VK} (s : Same B H) (bs : List Bool) (hl : bs.length ≤ 1000) (h1 : B p = some (.lst (bs.map V.bl))) (h2 : B q = some (.lst (bs.map V.bl))) (h : Q (.bl false) H) : gNe K (.ref p) (.ref q) H Q :=
  G.ne_same s (.lst h1 (dts_bls bs)) (.lst h2 (dts_bls bs)) ⟨by rw [List.length_map]; omega, fun d hd => by
    obtain ⟨b, _, rfl⟩ := List.mem_map.mp hd
    trivial⟩ h
end G

namespace G
open PySem PySem.Spec PyProof.Rows L2 TL RZ

/-! ### sorted(xs, key=lambda one: one[:2]) -/
/-- what the lambda is: one[:2] of its one name -/
structure LamK (params : Arguments) (body : Expr) (scope : Scope) (x : Str) : Prop where
  kind : scope.kind = .function
  co : scope.isCoroutine = false
  gen : scope.isGenerator = false
  cell : ∀ y ∈ scope.names, y.2 ≠ .cell
  free : ∀ y ∈ scope.names, y.2 ≠ .free
  loc : scope.names.lookup x = some .local
  bind : ∀ (qual : Str) (pm cdv ctv : Value) (v : Value), (bindArgs (PySem.W.kla_fn "<lambda>" qual params body scope [] pm cdv ctv) ⟨[v], []⟩ : Sem (List (Str × Value))) = pure [(x, v)]
  bd : ∃ (p1 p2 p3 pos : Pos) (j : Nat), body = .Subscript (.Name x p1) (.Slice none (some (.Constant (.int 2) j p3)) none p2) pos
  nd : (x == ("__debug__" : Str)) = false
  df : ∀ env, defaultsOf params env = ([], [])
theorem lam_key {P : Program} {w : World} {A : Around} {s : Shared} {params : Arguments} {body : Expr} {scope : Scope} {x q : Str} {f c' t : Addr} {pm ctv : Value} {a b : Int} {ta tb : Tok} {c : Value} (L : LamK params body scope x)
    (hr : A.depth < recursionLimit) (hf : s.heap.get? f = some (PySem.W.kla_obj "<lambda>" q params body scope [] pm c' ctv)) (hc : ∃ (oc : Obj) (vs : Array Value) (t : Tok), s.heap.get? c' = some oc ∧ oc.data = .fields vs ∧ vs[1]? = some (.str q t))
    (hl : s.heap.NoLimit) (ht : IsTup s.heap t #[.int a ta, .int b tb, c]) : wpAny (model P w) A (call (.ref f) [.ref t]) (PySem.W.KeyPure (.tuple [.int a, .int b]) s) (fun _ _ => False) s := by
  obtain ⟨oc, vs, tq, hoc, hdc, hvc⟩ := hc
  obtain ⟨p1, p2, p3, pos, j, rfl⟩ := L.bd
  have rc : codeAny (model P w) A (.call (.ref f) ⟨[.ref t], []⟩) (fun r s' => ∃ u, r = .ok (.ret u) ∧ PySem.W.KeyPure (.tuple [.int a, .int b]) s u s') s := by
    refine PySem.W.kla_callFunE hr hf rfl L.co L.gen rfl ⟨c', oc, vs, tq, rfl, hoc, hdc, hvc⟩ ?_
    rw [L.bind]
    refine wpAny_pure (wpAny_newFunctionEnv L.cell (fun y hy => by rw [List.mem_singleton.mp hy]; exact L.loc) (fun h₁ hns hsb => ⟨hl.fresh _ hsb, ?_⟩) L.kind)
    have kp : ∀ b o, s.heap.get? b = some o → h₁.get? b = some o := fun b o e => hsb.extBut b o (Nat.ne_of_lt (Heap.lt_size e)) (Heap.get?_push_of_some _ e)
    refine PySem.W.kla_codeExpr ?_
    refine Subscript_ (wpAny_Name (wpAny_loadName_local L.kind L.loc hns (show [(x, Value.ref t)].reverse.lookup x = some (.ref t) by simp) ?_) L.nd)
    refine wpAny_Slice (evalPart_none_step (evalPart_some_step (wpAny_Constant_int (evalPart_none_step ?_))))
    obtain ⟨o, ho, hc, n, hd⟩ := ht
    refine tail_any (ops := [.ref h₁.objs.size, .ref t]) (T := "tuple") ⟨o, Heap.get?_push_of_some _ (kp _ _ ho), hc⟩ PyProof.Rows.slot_tuple_getitem.lookup ?_ (by with_unfolding_all rfl)
    refine HT.getItem_tuple_cut (lo := none) (hi := some 2) ⟨o, Heap.get?_push_of_some _ (kp _ _ ho), hc, n, hd⟩ (Heap.IsSliceOf.new ..) .none (.int 2 _) (show ¬ (HT.sIx 3 0 none = 0 ∧ HT.sIx 3 3 (some 2) = 3) by decide) ?_ (show 3 ≤ sizeLine by rw [sizeLine_eq]; decide)
    refine ⟨_, rfl, _, _, rfl, fun b o e => Heap.get?_push_of_some _ (Heap.get?_push_of_some _ (kp _ _ e)), ?_⟩
    exact reads_tuple_at (Heap.get?_push_size _ rfl) rfl rfl (.cons (.int _ _) (.cons (.int _ _) .nil))
  refine wpAny_call (codeAny_mono rc fun r s' hq => ?_)
  obtain ⟨u, rfl, hq⟩ := hq
  exact hq

/-- the table at P of the lambda's code objects, each of them known and of the name q -/
def Tab (B H : Hp) (P : Addr) (q : Str) : Prop := ∃ ps : Array Value, H P = some (.tbl ps) ∧ TriplesOk ps.toList ∧ ∀ (pos : Pos) (cv : Value), codeAmong pos ps.toList = some cv → ∃ c, cv = .ref c ∧ c ≠ P ∧ B c = some (LamX.CodeO c q)
/-- what the making of a lambda changes -/
def Lamd (H H1 : Hp) (P : Addr) (q : Str) : Prop := H1 = H ∨ ∃ (c' : Addr) (ps ps' : Array Value), H c' = none ∧ c' ≠ P ∧ H P = some (.tbl ps) ∧ H1 = upd (upd H P (.tbl ps')) c' (LamX.CodeO c' q) ∧ TriplesOk ps'.toList ∧
  ∀ (pos : Pos) (cv : Value), codeAmong pos ps'.toList = some cv → codeAmong pos ps.toList = some cv ∨ cv = .ref c'
section
variable {X : Cx} {pins : List (Addr × Obj)} {σ : L2.St} {H : Hp} {s : Shared}
theorem lam_makeP {c P : Addr} {params : Arguments} {body : Expr} {scope : Scope} {pos : Pos} {x : Str} {E : Value → Shared → Prop} {Q : Value → Shared → Prop} (L : LamK params body scope x) (I : Inv X pins σ H s) (TB : LamX.TabB X.base X.mg c P) (hcode : X.env.code = .ref c)
    (hT : Tab H H P (X.env.qual ++ "<lambda>"))
    (h : ∀ (f c' : Addr) (pm ctv : Value) (H1 : Hp) (s' : Shared), Inv X pins σ H1 s' → Lamd H H1 P (X.env.qual ++ "<lambda>") →
      s'.heap.get? f = some (PySem.W.kla_obj "<lambda>" (X.env.qual ++ "<lambda>") params body scope [] pm c' ctv) → H1 c' = some (LamX.CodeO c' (X.env.qual ++ "<lambda>")) → Q (.ref f) s') :
    wpAny (model X.prog X.w) X.A (eval (.Lambda params body scope pos) X.env) Q E s := by
  have hT0 := hT
  obtain ⟨ps, hP, ht, ha⟩ := hT
  have hfree : ∀ y ∈ scope.names, y.2 = .free → ∃ c, X.env.cells.lookup y.1 = some c := fun y hy e => absurd e (L.free y hy)
  have hclo : cloFrom X.env.cells scope.names [] = [] := by
    cases e : cloFrom X.env.cells scope.names [] with
    | nil => rfl
    | cons z l =>
      have hz : z ∈ cloFrom X.env.cells scope.names [] := by rw [e]; exact List.mem_cons_self
      rcases cloFrom_mem hz with hm | ⟨h1, h2⟩
      · cases hm
      · exact absurd rfl (L.free _ h1)
  have hcl : closureFor scope X.env = pure [] := by rw [closure_ok hfree, hclo]
  refine PySem.W.kla_eval (L.df _) ?_
  have bP : s.heap.BuiltinsAt X.mg P := TB.bm.keeps I.bk
  have hP' : s.heap.get? P = some { cls := .none, data := .fields ps } := I.hok P _ hP
  cases hc : codeAmong pos ps.toList with
  | none =>
    refine PySem.W.kla_makeFunction (mg := X.mg) (c := c) (P := P) (ps := ps) hcl I.ok.glob (I.mod.glob.keeps I.bk) hcode (TB.code.keeps I.bk) hP' ht hc TB.gP bP fun c' ctv h' tk hx hge hlt hrec htb => ?_
    obtain ⟨c2, oc, vs, t, e2, hoc, hd, hv⟩ := hrec
    cases e2
    have nC : H c' = none := I.hok.fresh hge
    have I1 := LamX.inv_table (t' := tk) (q := X.env.qual ++ "<lambda>") (more := #[rawInt pos.line, rawInt pos.col, .ref c']) (h' := h'.push (PySem.W.kla_obj "<lambda>" (X.env.qual ++ "<lambda>") params body scope [] ((X.mg "__name__").getD .none) c' ctv)) I hP
      (fun b o hb e => Heap.get?_push_of_some _ (hx b o hb e)) (Heap.get?_push_of_some _ htb) hge ⟨oc, vs, t, Heap.get?_push_of_some _ hoc, hd, hv⟩
    have nPc : P ≠ c' := ne_of_none hP nC
    have eL : (ps ++ #[rawInt pos.line, rawInt pos.col, .ref c']).toList = ps.toList ++ [rawInt pos.line, rawInt pos.col, .ref c'] := by simp
    exact h h'.objs.size c' ((X.mg "__name__").getD .none) ctv _ _ I1 (.inr ⟨c', ps, _, nC, nPc.symm, hP, rfl, by rw [eL]; exact PySem.TriplesOk_snoc _ _ _ _ ht, fun p' cv hcv => LamX.among_app _ ht (by rw [eL] at hcv; exact hcv)⟩) (Heap.get?_push_size _ rfl) upd_same
  | some cv =>
    obtain ⟨c', e, hn, hco⟩ := ha pos cv hc
    subst e
    refine PySem.W.kla_makeFunctionHit (mg := X.mg) (c := c) (P := P) (ps := ps) hcl I.ok.glob (I.mod.glob.keeps I.bk) hcode (TB.code.keeps I.bk) hP' ht hc bP fun ctv h' tk hx hsz => ?_
    have I1 : Inv X pins σ H { s with heap := h'.push (PySem.W.kla_obj "<lambda>" (X.env.qual ++ "<lambda>") params body scope [] ((X.mg "__name__").getD .none) c' ctv), toks := tk } := I.kept fun b o e => Heap.get?_push_of_some _ (hx b o e)
    exact h h'.objs.size c' ((X.mg "__name__").getD .none) ctv H _ I1 (.inl rfl) (Heap.get?_push_size _ rfl) hco
end
def Srt2 (xs : List V) (ts : List (Int × Int)) : List V := ((xs.zip ts).mergeSort (fun x y : V × (Int × Int) => decide (x.2.1 < y.2.1 ∨ (x.2.1 = y.2.1 ∧ x.2.2 ≤ y.2.2)))).map (·.1)
def SrtLR (P : Addr) (q : Str) (Q : VK) (x : V) (H1 : Hp) : Prop := ∃ (a : Addr) (xs : List V) (ts : List (Int × Int)), x = .ref a ∧ H1 a = some (.lst xs) ∧ xs.length = ts.length ∧ xs.length ≤ 1000 ∧
  (∀ z ∈ xs.zip ts, ∃ t c, z.1 = .ref t ∧ H1 t = some (.tup [.int z.2.1, .int z.2.2, c])) ∧ Tab H1 H1 P q ∧ ∀ H2, Lamd H1 H2 P q → ∀ p, H2 p = none → Q (.ref p) (upd H2 p (.lst (Srt2 xs ts)))
def tSrtL (P : Addr) (q : Str) (te : TE) : TE := fun σ H Q => te σ H (SrtLR P q Q)
theorem g_srtL {P : Addr} {q : Str} {te : TE} {σ : L2.St} {H : Hp} {Q : VK} (h : te σ H (SrtLR P q Q)) : tSrtL P q te σ H Q := h
theorem zip3 {α β γ : Type} : ∀ {xs : List α} {us : List β} {ts : List γ}, xs.length = us.length → xs.zip ts = ((xs.zip us).zip ts).map (fun z => (z.1.1, z.2)) ∧ us.zip ts = ((xs.zip us).zip ts).map fun z => (z.1.2, z.2)
  | [], [], _, _ => ⟨rfl, rfl⟩
  | [], _ :: _, _, h => nomatch h
  | _ :: _, [], _, h => nomatch h
  | x :: xs, u :: us, [], _ => ⟨rfl, rfl⟩
  | x :: xs, u :: us, t :: ts, h => by
    obtain ⟨h1, h2⟩ := zip3 (xs := xs) (us := us) (ts := ts) (Nat.succ.inj h)
    simp only [List.zip_cons_cons, List.map_cons]
    exact ⟨by rw [← h1], by rw [← h2]⟩
theorem eachIs_eq {α β : Type} {f : β → α} {R : α → β → Prop} (hR : ∀ a b, R a b → a = f b) : ∀ {xs : List α} {ys : List β}, PySem.W.EachIs R xs ys → xs = ys.map f
  | _, _, .nil => rfl
  | _, _, .cons h t => by rw [List.map_cons, hR _ _ h, eachIs_eq hR t]
theorem eachIs_of {α β : Type} {f : β → α} {R : α → β → Prop} : ∀ {ys : List β}, (∀ b ∈ ys, R (f b) b) → PySem.W.EachIs R (ys.map f) ys
  | [], _ => .nil
  | b :: bs, h => .cons (h b List.mem_cons_self) (eachIs_of fun b hb => h b (List.mem_cons_of_mem _ hb))
theorem vals_map2 {γ : Type} {f : γ → V} {g : γ → Value} : ∀ {l : List γ}, (∀ z ∈ l, RelV (f z) (g z)) → Vals (l.map f) (l.map g)
  | [], _ => .nil
  | z :: l, h => .cons (h z List.mem_cons_self) (vals_map2 fun z hz => h z (List.mem_cons_of_mem _ hz))
theorem Vals.zip {vs : List V} {us : List Value} (r : Vals vs us) : ∀ z ∈ vs.zip us, RelV z.1 z.2 := by
  induction r with
  | nil => exact fun z hz => nomatch hz
  | cons h t ih =>
    intro z hz
    rcases List.mem_cons.mp hz with rfl | hz
    · exact h
    · exact ih z hz
section
variable {X : Cx}
theorem pe_srtL {c P : Addr} {k : Nat} {params : Arguments} {body : Expr} {scope : Scope} {lpos p pos kpos : Pos} {x : Str} {e : Expr} {te : TE} (L : LamK params body scope x) (TB : LamX.TabB X.base X.mg c P) (hcode : X.env.code = .ref c) (hr : RoomG k X.A) (hg : Gl X "sorted") (hm : X.mg "sorted" = none)
    (he : PE X e te) {q : Str} (hq : X.env.qual ++ "<lambda>" = q := by rfl) (hs : starEach [e] X.env = (false, eval e X.env) :: starEach [] X.env := by rfl) (hst : backTo pos (starEach [e] X.env) = (false, eval e X.env) :: backTo pos (starEach [] X.env) := by rfl) (hpl : (backTo pos (starEach [e] X.env)).any (·.1) = false := by rfl) :
    PE X (.Call (.Name "sorted" p) [e] [⟨some "key", .Lambda params body scope lpos, kpos⟩] pos) (tSrtL P q te) := by
  subst hq
  refine ⟨fun pins s σ H Q I h => ?_⟩
  refine wpAny_Call_Name_kw (ld_blt I hg hm (show bootBuiltins "sorted" = some (.builtin "sorted") from rfl) ?_ (by decide) (by decide))
  have ha : PA X [e] (tCons te tNil) := pa_cons he pa_nil hs
  refine PyProof.Rows.callWith_kw (thn (ha.run pos pins s σ H (fun vs H1 => match vs with | [v] => SrtLR P (X.env.qual ++ "<lambda>") Q v H1 | _ => False) I h) fun us s1 ⟨vs, H1, I1, r1, q1⟩ => ?_) hst hpl rfl rfl
  match vs, q1 with
  | [v], q1 =>
  obtain ⟨a, xs, ts, rfl, h1, hl, hk, hz, hT, q⟩ := q1
  obtain rfl := Vals.ref1 r1
  refine wpAny_evalAll_cons (wpAny_bind (lam_makeP L I1 TB hcode hT fun f c' pm ctv H2 s2 I2 hlm hf hc => wpAny_bind (wpAny_standAt (wpAny_pure (wpAny_evalAll_nil ?_)))))
  show wpAny _ _ (call (.builtin "sorted") [.ref a] [(Str.ofString "key", .ref f)]) _ _ _
  -- what was there still is
  have kept : ∀ b o, b ≠ P → H1 b = some o → H2 b = some o := fun b o hb e => by
    rcases hlm with rfl | ⟨c2, ps, ps', n2, _, _, rfl, _⟩
    · exact e
    · rw [upd_ne (ne_of_none e n2), upd_ne hb]; exact e
  have nP : ∀ b o, H1 b = some o → (∀ ps, o ≠ .tbl ps) → b ≠ P := fun b o e n z => by
    obtain ⟨ps, e2, _⟩ := hT
    rw [z, e2] at e
    exact n ps (Option.some.inj e).symm
  have h2 : H2 a = some (.lst xs) := kept a _ (nP a _ h1 fun ps z => nomatch z) h1
  obtain ⟨its, rv, pl, _⟩ := I2.list (.inl (.inl h2))
  have hil : its.length = xs.length := rv.length.symm
  have tupAt : ∀ z ∈ (xs.zip its).zip ts, ∃ (t : Addr) (c : Value) (t1 t2 : Tok), z.1.2 = .ref t ∧ IsTup s2.heap t #[.int z.2.1 t1, .int z.2.2 t2, c] := fun z m => by
    obtain ⟨i, hi⟩ := List.getElem?_of_mem m
    rw [List.getElem?_zip_eq_some, List.getElem?_zip_eq_some] at hi
    obtain ⟨⟨i1, i2⟩, i3⟩ := hi
    obtain ⟨t, c, e, ht⟩ := hz (z.1.1, z.2) (List.mem_of_getElem? (i := i) (by rw [List.getElem?_zip_eq_some]; exact ⟨i1, i3⟩))
    have rz : RelV z.1.1 z.1.2 := Vals.zip rv _ (List.mem_of_getElem? (i := i) (by rw [List.getElem?_zip_eq_some]; exact ⟨i1, i2⟩))
    have e : z.1.1 = .ref t := e
    rw [e] at rz
    obtain rz : z.1.2 = Value.ref t := rz
    obtain ⟨us, ru, hu, _⟩ := I2.tuple (.inl (.inl (kept t _ (nP t _ ht fun ps z => nomatch z) ht)))
    cases ru with
    | cons r1 ru =>
      cases ru with
      | cons r2 ru =>
        cases ru with
        | cons r3 ru =>
          cases ru
          obtain ⟨t1, rfl⟩ := r1
          obtain ⟨t2, rfl⟩ := r2
          exact ⟨t, _, t1, t2, rz, hu⟩
  obtain ⟨⟨oc, cvs, ct, hoc, hcd, hcv⟩, _⟩ : (∃ (oc : Obj) (vs : Array Value) (t : Tok), s2.heap.get? c' = some oc ∧ oc.data = .fields vs ∧ vs[1]? = some (.str (X.env.qual ++ "<lambda>") t)) ∧ True := by
    have z : ObjOk X.prog X.w H2 s2.heap c' (LamX.CodeO c' (X.env.qual ++ "<lambda>")) := I2.hok c' _ hc
    exact ⟨z.1, trivial⟩
  have ebs : (its.zip ts).map (·.1) = its := List.map_fst_zip (by omega)
  have eit : its = (its.zip ts).map (·.1) := ebs.symm
  have each : PySem.W.EachIs (fun (v : Value) (z : Value × (Int × Int)) => v = z.1 ∧ z ∈ its.zip ts) its (its.zip ts) := by
    have := eachIs_of (f := fun z : Value × (Int × Int) => z.1) (R := fun (v : Value) (z : Value × (Int × Int)) => v = z.1 ∧ z ∈ its.zip ts) (ys := its.zip ts) fun b hb => ⟨rfl, hb⟩
    rw [ebs] at this
    exact this
  refine PySem.W.sorted_key_data (b := false) (fun z : Value × (Int × Int) => .tuple [.int z.2.1, .int z.2.2]) pl.isList each (PySem.W.AllAlike.of fun _ _ => by simp [PySem.W.alike, PySem.W.alikeAll]) (PySem.W.Sortable.tuples fun _ => ⟨_, _, rfl⟩) (by rw [List.length_zip, sizeLine_eq]; omega) (fun z _ => ?_) (PyProof.Rows.ksk_s1 _ _) (fun _ => PyProof.Rows.ksk_l1 _ _) (fun _ => PyProof.Rows.ksk_t1 _ _)
    (fun v z hvz hmz h tk kp => ?_) fun out c2 h' tk kp fr hD hol eo => ?_
  · have hd : (PyData.tuple [.int z.2.1, .int z.2.2]).depth = 1 := by simp [PyData.depth, PyData.depthAll]
    have := hr.units
    omega
  · obtain ⟨rfl, _⟩ := hvz
    obtain ⟨i, hi⟩ := List.getElem?_of_mem hmz
    rw [List.getElem?_zip_eq_some] at hi
    have hix : i < xs.length := by
      have := (List.getElem?_eq_some_iff.mp hi.1).1
      omega
    obtain ⟨t, c3, t1, t2, et, ht⟩ := tupAt ((xs[i], z.1), z.2) (List.mem_of_getElem? (i := i) (by
      rw [List.getElem?_zip_eq_some, List.getElem?_zip_eq_some]
      exact ⟨⟨List.getElem?_eq_getElem hix, hi.1⟩, hi.2⟩))
    have et : z.1 = .ref t := et
    rw [et]
    obtain ⟨ot, ho1, ho2, n3, ho3⟩ := ht
    exact lam_key (s := { s2 with heap := h, toks := tk }) L hr.toRoom.depth (kp _ _ hf) ⟨oc, cvs, ct, kp _ _ hoc, hcd, hcv⟩ (I2.nolimit.keeps kp) ⟨ot, kp _ _ ho1, ho2, n3, ho3⟩
  · rw [PySem.W.dataLe_ii (β := Value × (Int × Int)) (fun p => p.2.1) (fun p => p.2.2)] at eo
    have eout : out = ((its.zip ts).mergeSort fun x y => decide (x.2.1 < y.2.1 ∨ (x.2.1 = y.2.1 ∧ x.2.2 ≤ y.2.2))).map (·.1) := eachIs_eq (fun a b h => h.1) eo
    obtain ⟨et1, et2⟩ := zip3 (ts := ts) hil.symm
    have hvals : Vals (Srt2 xs ts) out := by
      rw [eout]
      unfold Srt2
      rw [et1, et2, ← List.map_mergeSort (r := fun x y : (V × Value) × (Int × Int) => decide (x.2.1 < y.2.1 ∨ (x.2.1 = y.2.1 ∧ x.2.2 ≤ y.2.2))) (fun _ _ _ _ => rfl), ← List.map_mergeSort (r := fun x y : (V × Value) × (Int × Int) => decide (x.2.1 < y.2.1 ∨ (x.2.1 = y.2.1 ∧ x.2.2 ≤ y.2.2))) (fun _ _ _ _ => rfl), List.map_map, List.map_map]
      refine vals_map2 fun z hz => ?_
      have hz' := (List.mergeSort_perm _ _).mem_iff.mp hz
      obtain ⟨i, hi⟩ := List.getElem?_of_mem hz'
      rw [List.getElem?_zip_eq_some] at hi
      exact Vals.zip rv _ (List.mem_of_getElem? hi.1)
    refine ⟨.ref (s2.heap.objs.size + 1), _, I2.laid (t' := tk) (o := .lst (Srt2 xs ts)) kp (Nat.le_succ _) ⟨?_, out, c2, hvals, hD⟩, rfl, q H2 hlm _ (I2.hok.fresh (Nat.le_succ _))⟩
    rw [hvals.length, hol, List.length_zip, sizeLine_eq]
    omega
end
end G

namespace G
open PySem PySem.Spec PyProof.Rows L2 TL RZ

/-! ### a def that makes lambdas; the law's call where its table stands -/
structure FunT (K : PySem.W.Frag) (x qual : Str) (st : Stmt) (f : Addr) (fd : FuncData) (c : Addr) : Prop where
  ex : ∃ (oc : Value) (od : Option Addr) (kV doc pm : Value) (an : Option Addr) (ct : Value) (osl : Array (Option Value)),
    fd = PySem.W.fnOf x qual (defArgs st) (defBody st) (defScope st) .none kV doc pm an (.ref c) ct ∧ K.lookup f = some ⟨oc, od, .func fd, osl⟩ ∧ PySem.W.codeIn K (.ref c) qual = true
theorem okGT {P : Program} {w : World} {K : PySem.W.Frag} {mg : Str → Option Value} {base : Heap} {x qual : Str} {st : Stmt} {f c : Addr} {fd : FuncData} {N ps : List Str} {k : Nat} {sp : Sp} (F : FunT K x qual st f fd c) (S : FnScope N ps (defScope st)) (len : ∀ vs H Q E, sp vs H Q E → vs.length = ps.length)
    (hb : ∀ (A : Around) (ou : List Env) (s : Shared) (H : Hp) (vs : List V) (Q : VK) (E : XK), RoomG k (A.deeper (envOfC qual (defScope st) s.heap.objs.size f (.ref c))) → sp vs H Q E →
      ∃ t, PSs (cxOf CX0 P w K mg base N qual (defScope st) f (.ref c) A ou s H E).nox (defBody st) t ∧ t { nx := fun _ H' => Q .non H', rt := Q } (start N vs) H) : FnG P w K mg base CX0 (k + 1) f fd ps sp := by
  obtain ⟨oc, od, kV, doc, pm, an, ct, osl, rfl, lk, hcd⟩ := F.ex
  refine fn_ofG lk hcd S len fun A ou s H vs Q E r q => ?_
  obtain ⟨t, ht, hq⟩ := hb A ou s H vs Q E r q
  exact ⟨t, ht.nox, hq⟩
/-- the law is called: nothing is tracked but the script and the one table, which is empty -/
theorem law_callGT {P : Program} {w : World} {K : PySem.W.Frag} {mg mb : Str → Option Value} {CX : CXT} {k : Nat} {fa a c T : Addr} {fd : FuncData} {x : Str} {sp : Sp} {s : Shared} {vs : List Value} {ns : List Int}
    (KX : K.In s.heap) (hns : s.heap.Ns mainGlobals mg) (hb : s.heap.Ns builtinsNs mb) (hbb : ∀ x : Str, x ≠ "__name__" → mb x = bootBuiltins x) (hlim : s.heap.NoLimit) (hg : s.gens = #[])
    (hT : s.heap.get? T = some { cls := .none, data := .fields #[] }) (nT : K.lookup T = none) (C : PySem.W.CodeHd s.heap c T)
    (hbm : ∃ (bm : Addr) (ob : Obj), mg "__builtins__" = some (.ref bm) ∧ bm ≠ builtinsNs ∧ s.heap.get? bm = some ob ∧ ob.cls = .type "module" ∧ ob.dict = some builtinsNs ∧ ob.data = .plain)
    (ha : s.heap.get? a = some { cls := .type "list", data := .seq vs.toArray }) (hi : IntsAre vs ns) (hl : ns.length ≤ sizeLine) (hr : RoomG k callerA)
    (F : ∀ base : Heap, K.In base → base.Ns mainGlobals mg → LamX.TabB base mg c T → FnG P w K mg base CX k fa fd [x] sp) (hbind : ∀ (s : Shared) (u : Value), BindsTo s fd ⟨[u], []⟩ [(x, u)])
    (hsp : ∀ H : Hp, H T = some (.tbl #[]) → SqL K H a (ns.map V.int) → sp [.ref a] H (fun v _ => v = .bl true) fun _ _ _ => False) (hCX : ∀ H e s', CX [] H s (fun _ _ _ => False) e s' → False) :
    codeAny (model P w) callerA (.call (.ref fa) ⟨[.ref a], []⟩) (fun r s' => r = .ok (.ret (.bool true)) ∧ OldK s.heap s'.heap ∧ s'.os = s.os ∧ AllBare s'.gens) s := by
  have rv := vals_ints hi
  have hvl := hi.length
  have aT : a ≠ T := fun z => by
    rw [z, hT] at ha
    have d' : Data.fields #[] = Data.seq vs.toArray _ := congrArg Obj.data (Option.some.inj ha)
    cases d'
  have go : ∀ H : Hp, H T = some (.tbl #[]) → (∀ b, H b = none ∨ b = T ∨ ∃ o xs, H b = some (.frz o (.lst xs))) → SqL K H a (ns.map V.int) → HOk P w H s.heap → (∀ b, H b ≠ none → b = a ∨ b = T) → (H a ≠ none → K.lookup a = none) →
      codeAny (model P w) callerA (.call (.ref fa) ⟨[.ref a], []⟩) (fun r s' => r = .ok (.ret (.bool true)) ∧ OldK s.heap s'.heap ∧ s'.os = s.os ∧ AllBare s'.gens) s := by
    intro H hH hO hS hok hA hKa
    have keep : ∀ {b : Addr} {o : Obj}, s.heap.get? b = some o → H b = none → (hidT s.heap H).get? b = some o := fun e n => hidT_get e n
    -- neither a list nor a bare record: not tracked
    have untr : ∀ {b : Addr} {o : Obj}, s.heap.get? b = some o → (∀ vs n, o.data ≠ .seq vs n) → o.data ≠ .fields #[] → H b = none := fun {b o} e h1 h2 => by
      cases q : H b with
      | none => rfl
      | some u =>
        rcases hA b (by rw [q]; exact fun z => nomatch z) with e' | e'
        · rw [e', ha] at e; cases e
          exact (h1 _ _ rfl).elim
        · rw [e', hT] at e; cases e
          exact (h2 rfl).elim
    have nsK : ∀ {b : Addr} {m : Str → Option Value}, s.heap.Ns b m → (hidT s.heap H).Ns b m := by
      rintro b m ⟨o, es, ep, e, d, r⟩
      exact ⟨o, es, ep, keep e (untr e (fun vs n z => by rw [d] at z; cases z) fun z => by rw [d] at z; cases z), d, r⟩
    have hKb : K.In (hidT s.heap H) := fun b o e => keep (KX b o e) (by
      cases q : H b with
      | none => rfl
      | some u =>
        rcases hA b (by rw [q]; exact fun z => nomatch z) with e' | e'
        · rw [e'] at e q
          rw [hKa (by rw [q]; exact fun z => nomatch z)] at e; cases e
        · rw [e', nT] at e; cases e)
    have hM : Mod K mg (hidT s.heap H) := ⟨hKb, nsK hns, ⟨mb, nsK hb, hbb⟩, let ⟨mc, h1, h2⟩ := hlim; ⟨mc, nsK h1, h2⟩⟩
    have TB : LamX.TabB (hidT s.heap H) mg c T := by
      refine ⟨?_, ?_, fun z => ?_⟩
      · obtain ⟨o, us, file, tf, flags, tg, inF, text, tt, e1, r1, r2, r3, r4, r5, r6, r7, r8, hne⟩ := C
        refine ⟨o, us, file, tf, flags, tg, inF, text, tt, keep e1 (untr e1 (fun vs n z => ?_) fun z => ?_), r1, r2, r3, r4, r5, r6, r7, r8, hne⟩
        · rw [r2] at z; cases z
        · rw [r2] at z
          cases z
          cases r3
      · obtain ⟨bm, ob, b1, b2, b3, b4, b5, b6⟩ := hbm
        refine ⟨bm, ob, b1, b2, fun q => ?_, fun q => ?_, keep b3 (untr b3 (fun vs n z => ?_) fun z => ?_), b4, b5, b6⟩
        · obtain ⟨o, es, ep, e, hd, _⟩ := hns
          rw [q, e] at b3
          cases b3
          rw [hd] at b6; cases b6
        · rw [q, hT] at b3
          cases b3
          cases b6
        · rw [b6] at z; cases z
        · rw [b6] at z; cases z
      · obtain ⟨o, es, ep, e, hd, _⟩ := hns
        rw [z, hT] at e
        cases e
        cases hd
    have e0 : Env0 P w K mg (hidT s.heap H) callerA [] s H :=
      ⟨rfl, hM, fun _ _ e => of_hidT e, Nat.le_of_eq (hidT_size _ _), trivial, fun b hb => absurd (show b ∈ ([] : List Addr) from hb) (fun z => nomatch z), hok, .of_eq hg⟩
    refine codeAny_mono ((F _ hKb (nsK hns) TB).run callerA [] s H ⟨[.ref a], []⟩ [.ref a] [.ref a] _ _ hr e0 (hbind s (.ref a)) (.cons rfl .nil) (hsp H hH hS)) fun r s' h => ?_
    match r, h with
    | .error e, h => exact (hCX H e s' h).elim
    | .ok .next, h => exact h.elim
    | .ok .brk, h => exact h.elim
    | .ok .cont, h => exact h.elim
    | .ok (.ret u), ⟨v, H', os, bare, un, hok', r', q⟩ =>
      have q' : v = .bl true := q
      subst q'
      obtain rfl : u = Value.bool true := r'
      obtain ⟨more, z⟩ := un.tbls T #[] hH
      have grown : s'.heap.get? T = some { cls := .none, data := .fields (#[] ++ more) } := hok' T _ z
      have key : ∀ b o, b ≠ T → s.heap.get? b = some o → s'.heap.get? b = some o := fun b o nb e => by
        cases q : H b with
        | none => exact un.keep b o e q (fun z => nomatch (show b ∈ ([] : List Addr) from z)) (fun z => nomatch z)
        | some u =>
          rcases hO b with z | z | ⟨ob, xs, z⟩
          · rw [q] at z; cases z
          · exact absurd z nb
          · obtain ⟨e1, _⟩ := hok b _ z
            obtain ⟨e2, _⟩ := hok' b _ (un.frzs b ob _ z)
            rw [e] at e1
            cases e1
            exact e2
      refine ⟨rfl, ⟨fun b o e => ?_, fun b o e => ?_⟩, os, bare⟩
      · by_cases hb : b = T
        · rw [hb] at e ⊢
          rw [hT] at e
          cases e
          exact .inr (.inl ⟨(C.tab hT).isCodeTable, rfl, #[], _, rfl, grown⟩)
        · exact .inl (key b o hb e)
      · by_cases hb : b = T
        · rw [hb]; exact ⟨_, grown⟩
        · exact ⟨o, key b o hb e⟩
  cases hk : K.lookup a with
  | some o =>
    have e := KX a o hk
    rw [ha] at e
    cases e
    have at_ : ∀ {b : Addr} {u : HO}, (if b = T then some (HO.tbl #[]) else none) = some u → b = T := fun {b u} z => Decidable.byContradiction fun n => by
      rw [if_neg n] at z; cases z
    refine go (fun b => if b = T then some (.tbl #[]) else none) (if_pos rfl) (fun b => ?_) (.inr ⟨_, vs.toArray, _, hk, rfl, rfl, rfl, by rw [List.size_toArray, hvl]; exact hl, by simpa using rv⟩) (fun b u z => ?_) (fun b z => ?_) fun z => absurd (if_neg aT) z
    · by_cases n : b = T
      · exact .inr (.inl n)
      · exact .inl (if_neg n)
    · obtain rfl := at_ z
      have z' := (if_pos rfl).symm.trans z
      cases z'
      exact hT
    · exact .inr (Decidable.byContradiction fun n => z (if_neg n))
  | none =>
    refine go (fun b => if b = a then some (.frz { cls := .type "list", data := .seq vs.toArray } (.lst (ns.map V.int))) else if b = T then some (.tbl #[]) else none) ((if_neg aT.symm).trans (if_pos rfl)) (fun b => ?_) (.inl (.inr ⟨_, if_pos rfl⟩)) (fun b u z => ?_) (fun b z => ?_) fun _ => hk
    · by_cases n : b = a
      · exact .inr (.inr ⟨_, _, if_pos n⟩)
      · by_cases n2 : b = T
        · exact .inr (.inl n2)
        · exact .inl ((if_neg n).trans (if_neg n2))
    · by_cases n : b = a
      · have z' := (if_pos n).symm.trans z
        cases z'
        rw [n]
        exact ⟨ha, by rw [List.length_map]; exact hl, vs, _, rv, ha⟩
      · have z1 := (if_neg n).symm.trans z
        by_cases n2 : b = T
        · have z' := (if_pos n2).symm.trans z1
          cases z'
          rw [n2]
          exact hT
        · have z' := (if_neg n2).symm.trans z1
          cases z'
    · by_cases n : b = a
      · exact .inl n
      · exact .inr (Decidable.byContradiction fun n2 => z ((if_neg n).trans (if_neg n2)))
theorem walk_ofGT {l : PySem.W.OpenLaw} {n k : Nat} {q : Program} {loose : List Str} {XP : (Str → Option Value) → Heap → Prop} {YP : World → Heap → Prop} {d : DefRec} {K : Params → PySem.W.Frag} {CX : World → CXT} {x : Str}
    (hn : l.most = some n) (hn2 : n ≤ sizeLine) (hdf : d.params.defaults = []) (hr : RoomG k callerA) (hY : ∀ (w : World) (h : Heap), YP w h → (K w.params).In h)
    (F : ∀ (w : World) (mg : Str → Option Value) (fa : Addr) (h : Heap), (K w.params).In h → h.Ns mainGlobals mg → mg d.name = some (.ref fa) →
      (∀ (y : Str) (e : DefRec) (c P : Addr), (recsOf q).find? (fun e => e.name == y) = some e → PySem.W.tabIn (K w.params) y = some (c, P) → PySem.W.CodeHd h c P ∧ h.get? P = some { cls := .none, data := .fields #[] }) →
      ∃ (fd : FuncData) (c P : Addr) (sp : Sp), h.get? P = some { cls := .none, data := .fields #[] } ∧ (K w.params).lookup P = none ∧ PySem.W.CodeHd h c P ∧ (∀ (s : Shared) (u : Value), BindsTo s fd ⟨[u], []⟩ [(x, u)]) ∧
        (∀ (H : Hp) (a : Addr) (ns : List Int), ns.length ≤ n → H P = some (.tbl #[]) → SqL (K w.params) H a (ns.map V.int) → sp [.ref a] H (fun v _ => v = .bl true) fun _ _ _ => False) ∧
        ∀ base : Heap, (K w.params).In base → base.Ns mainGlobals mg → LamX.TabB base mg c P → FnG l.prog w (K w.params) mg base (CX w) k fa fd [x] sp)
    (hCX : ∀ (w : World) (H : Hp) (s : Shared) (e : Value) (s' : Shared), CX w [] H s (fun _ _ _ => False) e s' → False) : PySem.W.WalkO q loose XP YP l.row.toRowW d [] (fun f vs => PySem.call f vs) := by
  refine Att.attach_call hn hdf fun w s0 s mg mb fa o pm cd doc a vs ns G Y ho hd hcd hmg hobj hints hlen hg => ?_
  have KX := hY w _ Y
  obtain ⟨fd, c, P, sp, hT, nT, C, hb, hsp, hF⟩ := F w mg fa _ KX G.T.g hmg fun y e c P h1 h2 => PySem.W.tab_of G.T KX h1 h2
  exact law_callGT KX G.T.g G.T.b G.T.builtins G.T.nolimit hg hT nT C G.T.bmain hobj hints (Nat.le_trans hlen hn2) hr hF hb (fun H hH hS => hsp H a ns hlen hH hS) fun H e s' => hCX w H s e s'
end G

namespace G
open PySem PySem.Spec PyProof.Rows L2 TL RZ

/-! ### free trees, plain: the least ones put together again and again -/
/-- one that is there: its size, its number, its tree -/
abbrev FI := Int × Int × PT
def encF (x : FI) : PyData := .tuple [.int x.1, .int x.2.1, encPT x.2.2]
def leF (x y : FI) : Bool := decide (x.1 < y.1 ∨ (x.1 = y.1 ∧ x.2.1 ≤ y.2.1))
def srtF (th : List FI) : List FI := th.mergeSort leF
def costS (some : List FI) : Int := (some.map (·.1)).sum
def joinF (fr : Int) (some : List FI) : FI := (costS some, fr, .nd (some.map (·.2.2)))
def nextF (m : Nat) (fr : Int) (th : List FI) : List FI := (srtF th).drop m ++ [joinF fr ((srtF th).take m)]
def headF (th : List FI) : PT := (th.headD (0, 0, .lf 0)).2.2
def freeR (w : Nat) : Nat → List FI → Int → Nat → Int → Int × PT
  | 0, th, _, _, c => (c, headF th)
  | f + 1, th, fr, m, c => if th.length ≤ 1 then (c, headF th) else freeR w f (nextF m fr th) (fr + 1) w (c + costS ((srtF th).take m))
def many0 (n w : Nat) : Nat := (2 + ((n : Int) - 2) % ((w : Int) - 1)).toNat
def ones (ns : List Int) : List FI := ns.zipIdx.map fun e => (e.1, (e.2 : Int), .lf (e.2 : Int))
def freeF (ns : List Int) (w : Nat) : Int × PT := freeR w ns.length (ones ns) ns.length (many0 ns.length w) 0
theorem leF_trans (a b c : FI) (h1 : leF a b = true) (h2 : leF b c = true) : leF a c = true := by
  unfold leF at *
  simp only [decide_eq_true_eq] at *
  omega
theorem leF_total (a b : FI) : (leF a b || leF b a) = true := by
  unfold leF
  simp only [Bool.or_eq_true, decide_eq_true_eq]
  omega
theorem srtF_perm (th : List FI) : (srtF th).Perm th := List.mergeSort_perm _ _
theorem srtF_len (th : List FI) : (srtF th).length = th.length := (srtF_perm th).length_eq
theorem srtF_up (th : List FI) : (srtF th).Pairwise fun a b => leF a b = true := List.pairwise_mergeSort leF_trans leF_total th
def NumsU (th : List FI) : Prop := (th.map (·.2.1)).Nodup
theorem NumsU.perm {a b : List FI} (h : NumsU a) (p : a.Perm b) : NumsU b := (p.map _).nodup_iff.mp h
theorem NumsU.inj {th : List FI} (h : NumsU th) {x y : FI} (hx : x ∈ th) (hy : y ∈ th) (e : x.2.1 = y.2.1) : x = y := by
  induction th with
  | nil => cases hx
  | cons z l ih =>
    unfold NumsU at h
    rw [List.map_cons, List.nodup_cons] at h
    rcases List.mem_cons.mp hx with ex | hx'
    · rcases List.mem_cons.mp hy with ey | hy'
      · rw [ex, ey]
      · exact absurd (List.mem_map.mpr (⟨y, hy', by rw [← e, ex]⟩ : ∃ a, a ∈ l ∧ a.2.1 = z.2.1)) h.1
    · rcases List.mem_cons.mp hy with ey | hy'
      · exact absurd (List.mem_map.mpr (⟨x, hx', by rw [e, ey]⟩ : ∃ a, a ∈ l ∧ a.2.1 = z.2.1)) h.1
      · exact ih h.2 hx' hy'
theorem sort_uniq {a b : List FI} (p : a.Perm b) (u : NumsU a) (ha : a.Pairwise fun x y => leF x y = true) (hb : b.Pairwise fun x y => leF x y = true) : a = b :=
  List.Perm.eq_of_pairwise (le := fun x y => leF x y = true) (fun x y hx hy h1 h2 => by
    refine u.inj hx (p.mem_iff.mpr hy) ?_
    unfold leF at h1 h2
    simp only [decide_eq_true_eq] at h1 h2
    omega) ha hb p
theorem srtF_eq {a b : List FI} (p : a.Perm b) (u : NumsU a) : srtF a = srtF b :=
  sort_uniq ((srtF_perm a).trans (p.trans (srtF_perm b).symm)) (u.perm (srtF_perm a).symm) (srtF_up a) (srtF_up b)
theorem one_perm {α : Type} {a b : List α} (p : a.Perm b) (h : a.length ≤ 1) : a = b := by
  cases a with
  | nil => exact (List.perm_nil.mp p.symm).symm
  | cons x l =>
    cases l with
    | nil => exact (List.perm_singleton.mp p.symm).symm
    | cons y l => simp only [List.length_cons] at h; omega
theorem freeR_perm {w : Nat} {f : Nat} {a b : List FI} {fr : Int} {m : Nat} {c : Int} (p : a.Perm b) (u : NumsU a) (hf : a.length ≤ f + 1) : freeR w f a fr m c = freeR w f b fr m c := by
  by_cases h : a.length ≤ 1
  · rw [one_perm p h]
  · cases f with
    | zero => exact absurd hf h
    | succ f =>
      unfold freeR
      rw [if_neg h, if_neg (by rw [← p.length_eq]; exact h), nextF, nextF, srtF_eq p u]
/-- what is there: n rows' trees, each of its own number below fr, its size told by g -/
structure FOk (g : Int → Int) (w n : Nat) (fr : Int) (th : List FI) : Prop where
  nums : NumsU th
  lt : ∀ x ∈ th, 0 ≤ x.2.1 ∧ x.2.1 < fr
  ok : ∀ x ∈ th, x.2.2.okW w ∧ x.1 = (x.2.2.leaves.map g).sum
  lv : (PT.leavesL (th.map (·.2.2))).Perm (rgI 0 n)
def costT (g : Int → Int) (th : List FI) : Int := (th.map fun x => x.2.2.cost g).sum
theorem sumI_perm {a b : List Int} (h : a.Perm b) : a.sum = b.sum := by
  induction h with
  | nil => rfl
  | cons x _ ih => rw [List.sum_cons, List.sum_cons, ih]
  | swap x y l => rw [List.sum_cons, List.sum_cons, List.sum_cons, List.sum_cons]; omega
  | trans _ _ h1 h2 => exact h1.trans h2
theorem costS_leaves {g : Int → Int} : ∀ {l : List FI}, (∀ x ∈ l, x.1 = (x.2.2.leaves.map g).sum) → costS l = ((PT.leavesL (l.map (·.2.2))).map g).sum
  | [], _ => by unfold costS; rw [List.map_nil, List.map_nil, leavesL_nil]; rfl
  | x :: l, h => by
    have ih := costS_leaves (l := l) fun y hy => h y (List.mem_cons_of_mem _ hy)
    unfold costS at ih ⊢
    rw [List.map_cons, List.map_cons, leavesL_cons, List.map_append, List.sum_append, List.sum_cons, ih, h x List.mem_cons_self]
theorem FOk.step {g : Int → Int} {w n m : Nat} {fr : Int} {th : List FI} (F : FOk g w n fr th) (h2 : 2 ≤ m) (hw : m ≤ w) (hm : m ≤ th.length) (h0 : 0 ≤ fr) : FOk g w n (fr + 1) (nextF m fr th) := by
  have ps := srtF_perm th
  have mem : ∀ x ∈ srtF th, x ∈ th := fun x hx => ps.mem_iff.mp hx
  have hs := srtF_len th
  have hlt : ((srtF th).take m).length = m := by rw [List.length_take]; omega
  have hall : ((srtF th).take m ++ (srtF th).drop m) = srtF th := List.take_append_drop _ _
  have us := F.nums.perm ps.symm
  refine ⟨?_, fun x hx => ?_, fun x hx => ?_, ?_⟩
  · unfold NumsU nextF
    rw [List.map_append, List.nodup_append]
    refine ⟨?_, List.pairwise_singleton _ _, fun a ha b hb => ?_⟩
    · unfold NumsU at us
      rw [← hall, List.map_append, List.nodup_append] at us
      exact us.2.1
    · rw [List.map_singleton, List.mem_singleton] at hb
      obtain ⟨x, hx, rfl⟩ := List.mem_map.mp ha
      have := (F.lt x (mem x (List.mem_of_mem_drop hx))).2
      rw [hb]
      show x.2.1 ≠ fr
      omega
  · rcases List.mem_append.mp hx with hx | hx
    · have := F.lt x (mem x (List.mem_of_mem_drop hx))
      omega
    · rw [List.mem_singleton.mp hx]
      show 0 ≤ fr ∧ fr < fr + 1
      omega
  · rcases List.mem_append.mp hx with hx | hx
    · exact F.ok x (mem x (List.mem_of_mem_drop hx))
    · rw [List.mem_singleton.mp hx]
      refine ⟨okW_nd.mpr ⟨by rw [List.length_map, hlt]; exact h2, by rw [List.length_map, hlt]; exact hw, fun t ht => ?_⟩, ?_⟩
      · obtain ⟨x, hx, rfl⟩ := List.mem_map.mp ht
        exact (F.ok x (mem x (List.mem_of_mem_take hx))).1
      · show costS _ = ((PT.nd _).leaves.map g).sum
        rw [leaves_nd]
        exact costS_leaves fun x hx => (F.ok x (mem x (List.mem_of_mem_take hx))).2
  · unfold nextF
    rw [List.map_append, leavesL_app, List.map_singleton, leavesL_cons, leavesL_nil, List.append_nil]
    show (PT.leavesL _ ++ (PT.nd _).leaves).Perm _
    rw [leaves_nd]
    refine List.perm_append_comm.trans ?_
    rw [← leavesL_app, ← List.map_append, hall]
    exact (leavesL_perm (ps.map _)).trans F.lv
theorem costT_app (g : Int → Int) (a b : List FI) : costT g (a ++ b) = costT g a + costT g b := by
  unfold costT
  rw [List.map_append, List.sum_append]
theorem costT_step {g : Int → Int} {w n m : Nat} {fr : Int} {th : List FI} (F : FOk g w n fr th) : costT g (nextF m fr th) = costT g th + costS ((srtF th).take m) := by
  have ps := srtF_perm th
  have mem : ∀ x ∈ srtF th, x ∈ th := fun x hx => ps.mem_iff.mp hx
  have hall : ((srtF th).take m ++ (srtF th).drop m) = srtF th := List.take_append_drop _ _
  have e1 : costT g th = costT g ((srtF th).take m) + costT g ((srtF th).drop m) := by
    rw [← costT_app, hall]
    exact (sumI_perm (ps.map _)).symm
  unfold nextF
  rw [costT_app]
  have e2 : costT g [joinF fr ((srtF th).take m)] = costS ((srtF th).take m) + costT g ((srtF th).take m) := by
    unfold costT
    rw [List.map_singleton, List.sum_singleton]
    show (PT.nd _).cost g = _
    rw [cost_nd, costL_sum, List.map_map, ← costS_leaves fun x hx => (F.ok x (mem x (List.mem_of_mem_take hx))).2]
    rfl
  omega
theorem nextF_len {m : Nat} {fr : Int} {th : List FI} : (nextF m fr th).length = th.length - m + 1 := by
  unfold nextF
  rw [List.length_append, List.length_drop, srtF_len, List.length_singleton]
/-- so many are put together that at last one is left -/
def Fit (w L m : Nat) : Prop := L = 1 ∨ (2 ≤ m ∧ m ≤ w ∧ m ≤ L ∧ (L - m) % (w - 1) = 0)
theorem Fit.next {w L m : Nat} (hw : 2 ≤ w) (h : Fit w L m) (h1 : ¬ L ≤ 1) : Fit w (L - m + 1) w := by
  rcases h with h | ⟨h2, h3, h4, h5⟩
  · omega
  · by_cases c : L - m = 0
    · left; omega
    · right
      have hd := Nat.div_add_mod (L - m) (w - 1)
      have hq : 1 ≤ (L - m) / (w - 1) := by
        rcases Nat.eq_zero_or_pos ((L - m) / (w - 1)) with z | z
        · rw [z, h5] at hd; omega
        · exact z
      have hge : w - 1 ≤ (w - 1) * ((L - m) / (w - 1)) := Nat.le_mul_of_pos_right _ hq
      refine ⟨hw, Nat.le_refl _, by omega, ?_⟩
      have e : L - m + 1 - w = L - m - (w - 1) := by omega
      rw [e, ← Nat.mod_eq_sub_mod (by omega)]
      exact h5
theorem fit0 {n w : Nat} (hw : 2 ≤ w) (hn : 1 ≤ n) : Fit w n (many0 n w) := by
  by_cases c : n = 1
  · exact .inl c
  · right
    have e : many0 n w = 2 + (n - 2) % (w - 1) := by
      unfold many0
      rw [show (n : Int) - 2 = ((n - 2 : Nat) : Int) by omega, show (w : Int) - 1 = ((w - 1 : Nat) : Int) by omega, ← Int.natCast_emod]
      omega
    have h1 : (n - 2) % (w - 1) < w - 1 := Nat.mod_lt _ (by omega)
    have h2 : (n - 2) % (w - 1) ≤ n - 2 := Nat.mod_le _ _
    have h3 := Nat.div_add_mod (n - 2) (w - 1)
    rw [e]
    refine ⟨by omega, by omega, by omega, ?_⟩
    rw [show n - (2 + (n - 2) % (w - 1)) = (w - 1) * ((n - 2) / (w - 1)) by omega]
    exact Nat.mul_mod_right _ _
theorem freeR_ok {g : Int → Int} {w n : Nat} (hw : 2 ≤ w) : ∀ (f : Nat) (th : List FI) (fr : Int) (m : Nat) (c : Int), FOk g w n fr th → 1 ≤ th.length → th.length ≤ f + 1 → Fit w th.length m → 0 ≤ fr → c = costT g th →
    (freeR w f th fr m c).2.okW w ∧ (freeR w f th fr m c).1 = (freeR w f th fr m c).2.cost g ∧ (freeR w f th fr m c).2.leaves.Perm (rgI 0 n) := by
  intro f
  have one : ∀ (th : List FI) (fr c : Int), FOk g w n fr th → 1 ≤ th.length → th.length ≤ 1 → c = costT g th → (headF th).okW w ∧ c = (headF th).cost g ∧ (headF th).leaves.Perm (rgI 0 n) := by
    intro th fr c F h1 h2 hc
    match th, F, h1, h2, hc with
    | [x], F, _, _, hc =>
      refine ⟨(F.ok x List.mem_cons_self).1, ?_, ?_⟩
      · rw [hc]
        unfold costT
        rw [List.map_singleton, List.sum_singleton]
        rfl
      · have := F.lv
        rw [List.map_singleton, leavesL_cons, leavesL_nil, List.append_nil] at this
        exact this
  induction f with
  | zero => exact fun th fr m c F h1 h2 _ _ hc => one th fr c F h1 h2 hc
  | succ f ih =>
    intro th fr m c F h1 h2 hf h0 hc
    unfold freeR
    by_cases hl : th.length ≤ 1
    · rw [if_pos hl]
      exact one th fr c F h1 hl hc
    · rw [if_neg hl]
      have hf' := hf
      rcases hf with hf | ⟨m1, m2, m3, m4⟩
      · omega
      · refine ih _ _ _ _ (F.step m1 m2 m3 h0) (by rw [nextF_len]; omega) (by rw [nextF_len]; omega) (by rw [nextF_len]; exact hf'.next hw hl) (by omega) ?_
        rw [costT_step F, hc]

/-! ### in the heap -/
def qLam : Str := "free_plan.<locals>.<lambda>"
theorem Tab.mono {B B' H : Hp} {P : Addr} {q : Str} (h : Tab B H P q) (k : Same B B') : Tab B' H P q := by
  obtain ⟨ps, h1, h2, h3⟩ := h
  exact ⟨ps, h1, h2, fun pos cv e => by
    obtain ⟨c, e1, e2, e3⟩ := h3 pos cv e
    exact ⟨c, e1, e2, k _ _ e3⟩⟩
theorem Tab.heap {B H H' : Hp} {P : Addr} {q : Str} (h : Tab B H P q) (k : H' P = H P) : Tab B H' P q := by
  obtain ⟨ps, h1, h2, h3⟩ := h
  exact ⟨ps, by rw [k]; exact h1, h2, h3⟩
theorem Dts.itemF {B : Hp} {xs : List V} {th : List FI} (h : Dts B xs (th.map encF)) : ∀ z ∈ xs.zip (th.map fun x => (x.1, x.2.1)), ∃ t c, z.1 = .ref t ∧ B t = some (.tup [.int z.2.1, .int z.2.2, c]) := by
  intro z hz
  obtain ⟨i, hi⟩ := List.getElem?_of_mem hz
  rw [List.getElem?_zip_eq_some] at hi
  obtain ⟨h1, h2⟩ := hi
  obtain ⟨d, hd1, hd2⟩ := h.at h1
  rw [List.getElem?_map] at h2 hd1
  obtain ⟨x, hx, ex⟩ := Option.map_eq_some_iff.mp h2
  rw [hx] at hd1
  obtain rfl := Option.some.inj hd1
  obtain ⟨p, vs, ev, hp, hvs⟩ := hd2.tuple
  cases hvs with
  | cons a1 hvs =>
    cases hvs with
    | cons a2 hvs =>
      cases hvs with
      | cons a3 hvs =>
        cases hvs
        rw [a1.i, a2.i] at hp
        exact ⟨p, _, ev, by rw [← ex]; exact hp⟩
theorem zip_map_r {α β γ : Type} (f : β → γ) : ∀ (xs : List α) (ts : List β), xs.zip (ts.map f) = (xs.zip ts).map fun z => (z.1, f z.2)
  | [], _ => rfl
  | _ :: _, [] => rfl
  | x :: xs, t :: ts => by rw [List.map_cons, List.zip_cons_cons, List.zip_cons_cons, List.map_cons, zip_map_r f xs ts]
theorem srt2_dts {B : Hp} {xs : List V} {th : List FI} (h : Dts B xs (th.map encF)) : Dts B (Srt2 xs (th.map fun x => (x.1, x.2.1))) ((srtF th).map encF) := by
  have hl : xs.length = th.length := by rw [h.len, List.length_map]
  have e1 : Srt2 xs (th.map fun x => (x.1, x.2.1)) = ((xs.zip th).mergeSort fun a b => leF a.2 b.2).map (·.1) := by
    unfold Srt2
    have e := List.map_mergeSort (r := fun a b : V × FI => leF a.2 b.2) (s := fun x y : V × (Int × Int) => decide (x.2.1 < y.2.1 ∨ (x.2.1 = y.2.1 ∧ x.2.2 ≤ y.2.2))) (f := fun z : V × FI => (z.1, (z.2.1, z.2.2.1))) (l := xs.zip th) (fun _ _ _ _ => rfl)
    rw [zip_map_r, ← e, List.map_map]
    rfl
  have e2 : srtF th = ((xs.zip th).mergeSort fun a b => leF a.2 b.2).map (·.2) := by
    unfold srtF
    have e := List.map_mergeSort (r := fun a b : V × FI => leF a.2 b.2) (s := leF) (f := fun z : V × FI => z.2) (l := xs.zip th) (fun _ _ _ _ => rfl)
    rw [e, List.map_snd_zip (by omega)]
  rw [e1, e2, List.map_map]
  have hm : ∀ z ∈ (xs.zip th).mergeSort (fun a b => leF a.2 b.2), Dt B z.1 (encF z.2) := fun z hz => by
    have hz' := (List.mergeSort_perm _ _).mem_iff.mp hz
    obtain ⟨i, hi⟩ := List.getElem?_of_mem hz'
    rw [List.getElem?_zip_eq_some] at hi
    obtain ⟨d, hd1, hd2⟩ := h.at hi.1
    rw [List.getElem?_map, hi.2] at hd1
    obtain rfl := Option.some.inj hd1
    exact hd2
  generalize (xs.zip th).mergeSort (fun a b => leF a.2 b.2) = l at hm
  induction l with
  | nil => exact .nil
  | cons z l ih => exact .cons (hm z List.mem_cons_self) (ih fun y hy => hm y (List.mem_cons_of_mem _ hy))
theorem Pu.srtL {B0 H0 B H : Hp} {P a : Addr} {q : Str} {Q : VK} {xs : List V} {th : List FI} (S : Pu B0 H0 B H) (hT : Tab B H P q) (h0 : H0 P = none) (hB : B P = none) (h : B a = some (.lst xs)) (hd : Dts B xs (th.map encF)) (hl : th.length ≤ 1000)
    (k : ∀ p B' H' ys, Pu B0 H0 B' H' → Same B B' → Tab B' H' P q → B' P = none → B' p = some (.lst ys) → Dts B' ys ((srtF th).map encF) → Q (.ref p) H') : SrtLR P q Q (.ref a) H := by
  have hlen : xs.length = th.length := by rw [hd.len, List.length_map]
  refine ⟨a, xs, th.map fun x => (x.1, x.2.1), rfl, S.sub _ _ h, by rw [List.length_map]; exact hlen, by omega, fun z hz => ?_, hT.mono S.sub, fun H2 hm p np => ?_⟩
  · obtain ⟨t, c, e1, e2⟩ := hd.itemF z hz
    exact ⟨t, c, e1, S.sub _ _ e2⟩
  · obtain ⟨ps, t1, t2, t3⟩ := hT
    have put : ∀ B1 H1, Pu B0 H0 B1 H1 → Same B B1 → Tab B1 H1 P q → B1 P = none → H1 P ≠ none → H1 p = none → Q (.ref p) (upd H1 p (.lst (Srt2 xs (th.map fun x => (x.1, x.2.1))))) := fun B1 H1 S1 K1 T1 n1 hP1 np => by
      have hpP : P ≠ p := fun z => hP1 (by rw [z]; exact np)
      have kn : Same B1 (upd B1 p (.lst (Srt2 xs (th.map fun x => (x.1, x.2.1))))) := Same.updN (S1.free np)
      exact k p _ _ _ (S1.alloc np) (K1.trans kn) ((T1.mono kn).heap (upd_ne hpP)) (by rw [upd_ne hpP]; exact n1) upd_same (srt2_dts (hd.mono (K1.trans kn)))
    rcases hm with rfl | ⟨c', ps0, ps', n2, nP, hP0, rfl, ht', hc'⟩
    · exact put B H2 S (Same.refl _) ⟨ps, t1, t2, t3⟩ hB (by rw [t1]; exact fun z => nomatch z) np
    · rw [t1] at hP0
      cases hP0
      have S1 : Pu B0 H0 B (upd H P (.tbl ps')) := S.put h0 hB
      have nc1 : upd H P (.tbl ps') c' = none := by rw [upd_ne nP]; exact n2
      have kn : Same B (upd B c' (LamX.CodeO c' q)) := Same.updN (S.free n2)
      refine put (upd B c' (LamX.CodeO c' q)) _ (S1.alloc nc1) kn ⟨ps', by rw [upd_ne nP.symm, upd_same], ht', fun pos cv e => ?_⟩ (by rw [upd_ne nP.symm]; exact hB) (by rw [upd_ne nP.symm, upd_same]; exact fun z => nomatch z) np
      rcases hc' pos cv e with e | e
      · obtain ⟨c, e1, e2, e3⟩ := t3 pos cv e
        exact ⟨c, e1, e2, kn _ _ e3⟩
      · exact ⟨c', e, nP, upd_same⟩
end G

namespace G
open PySem PySem.Spec PyProof.Rows L2 TL RZ

/-! ### a law's own putting together of the least ones -/
section
variable {σ : L2.St} {H : Hp} {Q : VK} {g : TG} {tt : TT} {te : TE} {vs : List Nat} {J : It} {n : Nat} {Gd : Hp → Prop} {Y : Nat → V → Hp → Hp → Prop}
/-- a list comprehension: what stands is told in it; its list may change -/
theorem Pu.lcv {B0 H0 B H : Hp} (S : Pu B0 H0 B H) (W : Wk J n Gd Y) (hn : n ≤ 1000000) (hG : ∀ H', Same B H' → Same H H' → Gd H') (I : Nat → Hp → List V → Prop) (h0 : I 0 B [])
    (hs : ∀ (i : Nat) x acc B1 H1 H1', i < n → Same B B1 → Old B H B1 H1 → Same B1 H1 → Y i x H1 H1' → I i B1 acc → acc.length ≤ i → ∀ (Qk : VK) (Qn : Hp → Prop), (∀ v B2 H2, Pu B1 H1 B2 H2 → I (i + 1) B2 (acc ++ [v]) → Qk v H2) →
      (∀ B2 H2, Pu B1 H1 B2 H2 → I (i + 1) B2 acc → Qn H2) → g x (wipe σ vs) H1' (LcT tt te vs σ Qk Qn))
    (q : ∀ p B' H' acc, Pu B0 H0 B' H' → Old B H B' H' → Same B B' → H p = none → H' p = some (.lst acc) → B' p = none → H0 p = none → I n B' acc → Q (.ref p) H') : LcB g tt te vs σ Q J H := by
  intro D hD
  have hD0 : H0 D = none := S.free0 hD
  refine ⟨fun i m H' => m = n - i ∧ i ≤ n ∧ ∃ B1 acc, Pu B0 H0 B1 H' ∧ Old B H B1 H' ∧ Same B B1 ∧ B1 D = none ∧ H' D = some (.lst acc) ∧ acc.length ≤ i ∧ I i B1 acc,
    ⟨n, by simp, Nat.zero_le _, B, [], S.vol hD, ⟨Same.updN hD, fun _ _ => rfl⟩, Same.refl _, S.free hD, upd_same, Nat.le_refl _, h0⟩, ?_⟩
  rintro i m H1 ⟨rfl, hi, B1, acc, S1, O1, K1, hb, hx, hl, hI⟩
  have g1 : Gd H1 := hG _ (K1.trans S1.sub) O1.st
  have some_ : ∀ q, H q ≠ none → H1 q ≠ none := fun q hq => by
    cases z : H q with
    | none => exact absurd z hq
    | some u => rw [O1.st q u z]; exact fun z => nomatch z
  by_cases hlt : i < n
  · refine .inr ⟨W.go i H1 hlt g1, fun H2 => ∃ B2 acc', Pu B0 H0 B2 H2 ∧ Old B H B2 H2 ∧ Same B B2 ∧ B2 D = none ∧ H2 D = some (.lst acc') ∧ acc'.length ≤ i + 1 ∧ I (i + 1) B2 acc', fun H2 p => ⟨n - (i + 1), by omega, rfl, hlt, p⟩, fun x H1' y => ?_⟩
    refine hs i x acc B1 H1 H1' hlt K1 O1 S1.sub (W.yld i H1 x H1' hlt g1 y) hI hl _ _ (fun v B2 H2 S2 r => ?_) (fun B2 H2 S2 r => ?_)
    · have hx2 : H2 D = some (.lst acc) := S2.old _ _ hx
      have hb2 : B2 D = none := by rw [S2.fr D (by rw [hx]; exact fun z => nomatch z)]; exact hb
      have S3 := S1.trans S2
      exact ⟨acc, hx2, szl'' (by omega), B2, acc ++ [v], S3.put hD0 hb2, ⟨fun q u e => by
          have : q ≠ D := fun z => by rw [z, hD] at e; cases e
          rw [upd_ne this]; exact S2.old _ _ (O1.st q u e), fun q hq => by rw [S2.fr q (some_ q hq)]; exact O1.fr q hq⟩, K1.trans S2.kn, hb2, upd_same, by rw [List.length_append]; exact Nat.succ_le_succ hl, r⟩
    · have hx2 : H2 D = some (.lst acc) := S2.old _ _ hx
      have hb2 : B2 D = none := by rw [S2.fr D (by rw [hx]; exact fun z => nomatch z)]; exact hb
      exact ⟨B2, acc, S1.trans S2, ⟨O1.st.trans S2.old, fun q hq => by rw [S2.fr q (some_ q hq)]; exact O1.fr q hq⟩, K1.trans S2.kn, hb2, hx2, Nat.le_succ_of_le hl, r⟩
  · have e : i = n := by omega
    subst e
    exact .inl ⟨W.stop H1 g1, q D B1 H1 acc S1 O1 K1 hD hx hb hD0 hI⟩
end
def keyF (x : FI) : Int × Int := (x.1, x.2.1)
theorem lt2_II {a b : Int × Int} (h : PySem.W.dataLt (encII a) (encII b) = false) : b.1 < a.1 ∨ (b.1 = a.1 ∧ b.2 ≤ a.2) := by
  unfold encII at h
  rw [PySem.W.dataLt_pair (by simp [PySem.W.alike]) (by simp [PySem.W.alike]), PySem.W.dataLt_int, PySem.W.dataLt_int] at h
  replace h : (if (a.1 == b.1) = true then (if (a.2 == b.2) = true then false else decide (a.2 < b.2)) else decide (a.1 < b.1)) = false := h
  by_cases c : a.1 = b.1
  · rw [if_pos (by simpa using c)] at h
    by_cases c2 : a.2 = b.2
    · omega
    · rw [if_neg (by simpa using c2)] at h
      have := of_decide_eq_false h
      omega
  · rw [if_neg (by simpa using c)] at h
    have := of_decide_eq_false h
    omega
theorem min2_II {K : PySem.W.Frag} {B H : Hp} {Q : VK} {p : Addr} {xs : List V} {ts : List (Int × Int)} (s : Same B H) (h : H p = some (.lst xs)) (hd : Dts B xs (ts.map encII)) (hne : 0 < ts.length)
    (q : ∀ v m, m ∈ ts → (∀ a ∈ ts, m.1 < a.1 ∨ (m.1 = a.1 ∧ m.2 ≤ a.2)) → Dt B v (encII m) → Q v H) : gMin K [.ref p] H Q :=
  min_D s h hd hne alike_II non_II dep_II fun v m hm hl hD => q v m hm (fun a ha => lt2_II (hl a ha)) hD
theorem fits_II (a : Int × Int) : Fits 60 (encII a) := ⟨Nat.le_of_ble_eq_true rfl, allc trivial (all1 trivial)⟩
theorem plain_pt : ∀ t : PT, (encPT t).plain = true := PT.ind (fun n => by rw [encPT_lf]; rfl) fun l ih => by
  rw [encPT_nd]
  show PyData.plainAll (l.map encPT) = true
  induction l with
  | nil => rfl
  | cons t l ihl =>
    rw [List.map_cons, PyData.plainAll, ih t List.mem_cons_self, ihl fun t ht => ih t (List.mem_cons_of_mem _ ht)]
    rfl
theorem plain_F (x : FI) : (encF x).plain = true := by
  unfold encF
  simp [PyData.plain, PyData.plainAll, plain_pt]
theorem plain_Fs (th : List FI) : PyData.plainAll (th.map encF) = true := by
  induction th with
  | nil => rfl
  | cons x th ih => rw [List.map_cons, PyData.plainAll, plain_F, ih]; rfl
theorem place_F {th : List FI} {x : FI} (u : NumsU th) (h : x ∈ th) (f : Fits 31 (encPT x.2.2)) : ∃ j, SeqAt.dataPlace (th.map encF) (encF x) = some j ∧ th[j]? = some x := by
  have self : PyData.eqv (encF x) (encF x) = true := by
    unfold encF
    simp only [PyData.eqv, PyData.eqvAll, Bool.and_true, f.all.2.2, beq_self_eq_true]
  unfold SeqAt.dataPlace
  cases e : (th.map encF).findIdx? fun y => PyData.eqv y (encF x) with
  | none =>
    rw [List.findIdx?_eq_none_iff] at e
    have := e _ (List.mem_map.mpr ⟨x, h, rfl⟩)
    rw [self] at this; cases this
  | some j =>
    obtain ⟨h1, h2, _⟩ := List.findIdx?_eq_some_iff_getElem.mp e
    rw [List.getElem_map] at h2
    rw [List.length_map] at h1
    refine ⟨j, rfl, ?_⟩
    have hy : th[j] ∈ th := List.getElem_mem h1
    have e2 : (th[j]).2.1 = x.2.1 := by
      unfold encF at h2
      simp only [PyData.eqv, PyData.eqvAll, Bool.and_true, Bool.and_eq_true, beq_iff_eq] at h2
      exact h2.2.1
    rw [List.getElem?_eq_getElem h1, u.inj hy h e2]
/-- there.remove(least) -/
theorem rem_F {K : PySem.W.Frag} {B H : Hp} {Q : VK} {l : Addr} {vs : List V} {th : List FI} {v : V} {x : FI} (s : Same B H) (h : H l = some (.lst vs)) (ht : Dts B vs (th.map encF)) (u : NumsU th) (hm : x ∈ th) (f : Fits 31 (encPT x.2.2)) (hv : Dt B v (encF x))
    (q : ∀ j, th[j]? = some x → Q .non (upd H l (.lst (vs.eraseIdx j)))) : gRem K (.ref l) [v] H Q := by
  obtain ⟨j, h1, h2⟩ := place_F u hm f
  have fd : (encF x).depth ≤ 32 := by
    have := f.all.1
    unfold encF
    simp only [PyData.depth, PyData.depthAll]
    omega
  exact .inr ⟨l, vs, _, v, _, j, rfl, rfl, h, ht.dp s, hv.dp s, plain_Fs th, plain_F x, fd, h1, q j h2⟩
theorem eraseF_dts {B : Hp} : ∀ {vs : List V} {ds : List PyData} (j : Nat), Dts B vs ds → Dts B (vs.eraseIdx j) (ds.eraseIdx j)
  | _, _, _, .nil => .nil
  | _, _, 0, .cons _ t => t
  | _, _, j + 1, .cons h t => .cons h (eraseF_dts j t)
theorem erase_perm {α : Type} : ∀ {l : List α} {j : Nat} {x : α}, l[j]? = some x → (x :: l.eraseIdx j).Perm l
  | [], _, _, h => nomatch h
  | a :: l, 0, x, h => by
    obtain rfl := Option.some.inj h
    exact List.Perm.refl _
  | a :: l, j + 1, x, h => by
    rw [List.getElem?_cons_succ] at h
    rw [List.eraseIdx_cons_succ]
    exact (List.Perm.swap a x _).trans ((erase_perm h).cons a)
theorem erase_map {α β : Type} (f : α → β) : ∀ (l : List α) (j : Nat), (l.map f).eraseIdx j = (l.eraseIdx j).map f
  | [], _ => rfl
  | _ :: _, 0 => rfl
  | a :: l, j + 1 => by rw [List.map_cons, List.eraseIdx_cons_succ, List.eraseIdx_cons_succ, List.map_cons, erase_map f l j]
/-- the least of those that are still there is the next in order -/
theorem least_F {th tj : List FI} {j : Nat} {x : FI} {m : Int × Int} (u : NumsU th) (p : tj.Perm ((srtF th).drop j)) (hx : (srtF th)[j]? = some x) (hm : m ∈ tj.map keyF) (hl : ∀ a ∈ tj.map keyF, m.1 < a.1 ∨ (m.1 = a.1 ∧ m.2 ≤ a.2)) : m = keyF x := by
  obtain ⟨hj, ej⟩ := List.getElem?_eq_some_iff.mp hx
  have hd : (srtF th).drop j = x :: (srtF th).drop (j + 1) := by rw [List.drop_eq_getElem_cons hj, ej]
  have hxm : x ∈ tj := p.mem_iff.mpr (by rw [hd]; exact List.mem_cons_self)
  obtain ⟨y, hy, rfl⟩ := List.mem_map.mp hm
  have h1 := hl _ (List.mem_map.mpr ⟨x, hxm, rfl⟩)
  have hy' := p.mem_iff.mp hy
  rw [hd] at hy'
  rcases List.mem_cons.mp hy' with rfl | hy'
  · rfl
  · have up := (srtF_up th).sublist (List.drop_sublist j _)
    rw [hd] at up
    have h2 := (List.pairwise_cons.mp up).1 y hy'
    unfold leF at h2
    simp only [decide_eq_true_eq] at h2
    unfold keyF at h1 ⊢
    dsimp only at h1
    exact Prod.ext (by show y.1 = x.1; omega) (by show y.2.1 = x.2.1; omega)
theorem filter_F {tj : List FI} {x : FI} (u : NumsU tj) (hx : x ∈ tj) : tj.filter (fun y => decide (keyF y = keyF x)) = [x] := by
  induction tj with
  | nil => cases hx
  | cons y l ih =>
    have u' := u
    unfold NumsU at u
    rw [List.map_cons, List.nodup_cons] at u
    by_cases e : keyF y = keyF x
    · have eyx : y = x := u'.inj List.mem_cons_self hx (congrArg Prod.snd e)
      rw [List.filter_cons_of_pos (by simpa using e), eyx]
      have hn : l.filter (fun z => decide (keyF z = keyF x)) = [] := by
        rw [List.filter_eq_nil_iff]
        intro z hz hk
        have hk := of_decide_eq_true hk
        exact u.1 (List.mem_map.mpr (⟨z, hz, by rw [eyx]; exact congrArg Prod.snd hk⟩ : ∃ a, a ∈ l ∧ a.2.1 = y.2.1))
      rw [hn]
    · rw [List.filter_cons_of_neg (by simpa using e)]
      refine ih u.2 ?_
      rcases List.mem_cons.mp hx with rfl | hx
      · exact absurd rfl e
      · exact hx
theorem ones_mem {ns : List Int} {x : FI} (h : x ∈ ones ns) : ∃ i : Nat, i < ns.length ∧ ns[i]? = some x.1 ∧ x.2.1 = (i : Int) ∧ x.2.2 = .lf (i : Int) := by
  unfold ones at h
  obtain ⟨⟨z, i⟩, h1, rfl⟩ := List.mem_map.mp h
  have h2 := List.mem_zipIdx_iff_getElem?.mp h1
  exact ⟨i, (List.getElem?_eq_some_iff.mp h2).1, h2, rfl, rfl⟩
theorem ones_num (ns : List Int) : (ones ns).map (·.2.1) = rgI 0 ns.length := by
  refine List.ext_getElem? fun i => ?_
  unfold ones rgI
  rw [List.map_map, List.getElem?_map, List.getElem?_zipIdx, List.getElem?_map, Option.map_map]
  by_cases h : i < ns.length
  · rw [List.getElem?_eq_getElem h, List.getElem?_range (by omega)]
    show some (((0 + i : Nat) : Int)) = some ((0 : Int) + ((i : Nat) : Int))
    congr 1
    try omega
  · rw [List.getElem?_eq_none (by omega), List.getElem?_eq_none (by rw [List.length_range]; omega)]
    rfl
theorem ones_lv (ns : List Int) : PT.leavesL ((ones ns).map (·.2.2)) = (ones ns).map (·.2.1) := by
  have : ∀ l : List FI, (∀ x ∈ l, x.2.2 = .lf x.2.1) → PT.leavesL (l.map (·.2.2)) = l.map (·.2.1) := by
    intro l
    induction l with
    | nil => intro _; rw [List.map_nil, List.map_nil, leavesL_nil]
    | cons x l ih =>
      intro h
      rw [List.map_cons, List.map_cons, leavesL_cons, ih fun y hy => h y (List.mem_cons_of_mem _ hy), h x List.mem_cons_self, leaves_lf]
      rfl
  refine this _ fun x hx => ?_
  obtain ⟨i, _, _, h2, h3⟩ := ones_mem hx
  rw [h3, h2]
theorem ones_ok {ns : List Int} {w : Nat} : FOk (szN ns) w ns.length ns.length (ones ns) := by
  refine ⟨?_, fun x hx => ?_, fun x hx => ?_, ?_⟩
  · unfold NumsU
    rw [ones_num]
    exact rgI_nd _ _
  · obtain ⟨i, h1, _, h2, _⟩ := ones_mem hx
    omega
  · obtain ⟨i, h1, hv, _, h3⟩ := ones_mem hx
    rw [h3]
    refine ⟨okW_lf, ?_⟩
    rw [leaves_lf, List.map_singleton, List.sum_singleton]
    have := szN_at (ns := ns) (n := (i : Int)) (by omega) (by omega)
    rw [Int.toNat_natCast, hv] at this
    exact Option.some.inj this
  · rw [ones_lv, ones_num]
theorem costT_ones (g : Int → Int) (ns : List Int) : costT g (ones ns) = 0 := by
  unfold costT
  have : ∀ l : List FI, (∀ x ∈ l, x.2.2.cost g = 0) → (l.map fun x => x.2.2.cost g).sum = 0 := by
    intro l
    induction l with
    | nil => intro _; rfl
    | cons x l ih => intro h; rw [List.map_cons, List.sum_cons, h x List.mem_cons_self, ih fun y hy => h y (List.mem_cons_of_mem _ hy)]; rfl
  refine this _ fun x hx => ?_
  obtain ⟨i, _, _, _, h3⟩ := ones_mem hx
  rw [h3, cost_lf]
theorem ones_len' (ns : List Int) : (ones ns).length = ns.length := by unfold ones; rw [List.length_map, List.length_zipIdx]
/-- the tree that free ones give, and its cost -/
theorem freeF_ok {ns : List Int} {w : Nat} (hw : 2 ≤ w) (hn : 1 ≤ ns.length) : (freeF ns w).2.okW w ∧ (freeF ns w).1 = (freeF ns w).2.cost (szN ns) ∧ (freeF ns w).2.leaves.Perm (rgI 0 ns.length) :=
  freeR_ok hw _ _ _ _ _ ones_ok (by rw [ones_len']; exact hn) (by rw [ones_len']; omega) (by rw [ones_len']; exact fit0 hw hn) (by omega) (costT_ones _ _).symm
end G

namespace G
open PySem PySem.Spec PyProof.Rows L2 TL RZ

/-! ### a def that draws, and changes what stands at Z -/
theorem St.hideZ {a : Addr} {B H : Hp} {n : Nat} (Z : List Addr) (s : Same B H) (na : B a = none) (l : Left a n H) : St a B (hid Z H) n B H :=
  ⟨Same.refl _, s, na, l, fun q o _ e => hid_same _ _ _ e, fun _ _ => rfl⟩
theorem St.mgw {a : Addr} {n m : Nat} {B0 H0 B H B' H' : Hp} {Z : List Addr} (S : St a B0 H0 n B H) (hV : ∀ q ∈ Z, B q = none ∧ H0 q = none ∧ q ≠ a) (S' : St a B (hid Z H) m B' H') : St a B0 H0 m B' H' := by
  have hnV : ∀ q, H0 q ≠ none → q ∉ Z := fun q hq z => hq (hV q z).2.1
  refine ⟨S.kn.trans S'.kn, S'.sub, S'.na, S'.left, fun q o hqa e => S'.oth q o hqa (by rw [hid_out (hnV q (by rw [e]; exact fun z => nomatch z))]; exact S.oth q o hqa e), fun q hq => ?_⟩
  by_cases e : q = a
  · have h0 : B0 q = none := by
      cases z : B0 q with
      | none => rfl
      | some o =>
        rw [e] at z
        have h := S.kn a o z
        rw [S.na] at h
        cases h
    rw [h0, e]; exact S'.na
  · rw [S'.fr q (by
      rw [hid_out (hnV q hq)]
      cases z : H0 q with
      | none => exact absurd z hq
      | some o => rw [S.oth q o e z]; exact fun z => nomatch z), S.fr q hq]
def spMg {T : Type} (cost : Nat) (pre : Hp → Hp → List Addr → List V → T → Prop) (post : Hp → Hp → List Addr → T → V → Prop) : Sp := fun vs H Q _ =>
  ∃ (a : Addr) (rest : List V) (n : Nat) (B : Hp) (Z : List Addr) (x : T), vs = .ref a :: rest ∧ Same B H ∧ B a = none ∧ Left a n H ∧ cost ≤ n ∧ (∀ q ∈ Z, B q = none ∧ q ≠ a) ∧ pre B H Z rest x ∧
    ∀ v B' H' V', St a B (hid Z H) (n - cost) B' H' → (∀ q ∈ V', B' q = none ∧ q ≠ a ∧ (q ∈ Z ∨ H q = none)) → post B' H' V' x v → Q v H'
theorem St.mg {T : Type} {cost : Nat} {pre : Hp → Hp → List Addr → List V → T → Prop} {post : Hp → Hp → List Addr → T → V → Prop} {rest : List V} {Q : VK} {E : XK} {a : Addr} {n : Nat} {B0 H0 B H : Hp} (S : St a B0 H0 n B H) (hc : cost ≤ n) (x : T) (Z : List Addr)
    (hV : ∀ q ∈ Z, B q = none ∧ H0 q = none ∧ q ≠ a) (hp : pre B H Z rest x)
    (q : ∀ v B' H' V', St a B0 H0 (n - cost) B' H' → Same B B' → (∀ q ∈ V', B' q = none ∧ H0 q = none ∧ q ≠ a) → post B' H' V' x v → Q v H') : spMg cost pre post (.ref a :: rest) H Q E :=
  ⟨a, rest, n, B, Z, x, rfl, S.sub, S.na, S.left, hc, fun q hq => ⟨(hV q hq).1, (hV q hq).2.2⟩, hp, fun v B' H' V' S' hV' r => q v B' H' V' (S.mgw hV S') S'.kn (fun q hq => ⟨(hV' q hq).1, (hV' q hq).2.2.elim (fun z => (hV q z).2.1) (fun z => by
      cases e : H0 q with
      | none => rfl
      | some o =>
        rw [S.oth q o (hV' q hq).2.1 e] at z; cases z), (hV' q hq).2.1⟩) r⟩
theorem tabOth {a : Addr} {B H B' H' : Hp} {P : Addr} {q : Str} (T : Tab B H P q) (O : Oth a B H B' H') (K : Same B B') (b : B P = none) (ne : P ≠ a) : Tab B' H' P q ∧ B' P = none := by
  obtain ⟨ps, h1, h2, h3⟩ := T
  refine ⟨⟨ps, O.st _ _ ne h1, h2, fun pos cv e => ?_⟩, by rw [O.fr P (by rw [h1]; exact fun z => nomatch z)]; exact b⟩
  obtain ⟨c, e1, e2, e3⟩ := h3 pos cv e
  exact ⟨c, e1, e2, K _ _ e3⟩
theorem tabOld {B H B' H' : Hp} {P : Addr} {q : Str} (T : Tab B H P q) (O : Old B H B' H') (K : Same B B') (b : B P = none) : Tab B' H' P q ∧ B' P = none := by
  obtain ⟨ps, h1, h2, h3⟩ := T
  refine ⟨⟨ps, O.st _ _ h1, h2, fun pos cv e => ?_⟩, by rw [O.fr P (by rw [h1]; exact fun z => nomatch z)]; exact b⟩
  obtain ⟨c, e1, e2, e3⟩ := h3 pos cv e
  exact ⟨c, e1, e2, K _ _ e3⟩
theorem tabHid {H : Hp} {P : Addr} {q : Str} (T : Tab H H P q) : Tab (hid [P] H) H P q := by
  obtain ⟨ps, h1, h2, h3⟩ := T
  refine ⟨ps, h1, h2, fun pos cv e => ?_⟩
  obtain ⟨c, e1, e2, e3⟩ := h3 pos cv e
  exact ⟨c, e1, e2, by rw [hid_out (by simpa using e2)]; exact e3⟩
theorem Tab.some_ {B H : Hp} {P : Addr} {q : Str} (T : Tab B H P q) : ∃ ps, H P = some (.tbl ps) := by
  obtain ⟨ps, h, _⟩ := T
  exact ⟨ps, h⟩
theorem dt_pairI {B : Hp} {v : V} {c : Int} {d : PyData} (h : Dt B v (.tuple [.int c, d])) : ∃ p t, v = .ref p ∧ B p = some (.tup [.int c, t]) ∧ Dt B t d := by
  obtain ⟨p, vs, rfl, hp, hv⟩ := h.tuple
  cases hv with
  | cons a hv =>
    cases hv with
    | cons b hv =>
      cases hv
      rw [a.i] at hp
      exact ⟨p, _, rfl, hp, b⟩
end G

namespace G
open PySem PySem.Spec PyProof.Rows L2 TL RZ

/-! ### a law beside a lambda's table -/
theorem St.hideM {a : Addr} {n : Nat} {B H : Hp} (Z : List Addr) (S : G.St a B H n B H) : G.St a (hid Z B) (hid Z H) n (hid Z B) H := by
  refine ⟨Same.refl _, fun q o e => S.sub _ _ (hid_same _ _ _ e), ?_, S.left, fun q o _ e => hid_same _ _ _ e, fun _ _ => rfl⟩
  cases e : hid Z B a with
  | none => rfl
  | some o =>
    have := hid_same _ _ _ e
    rw [S.na] at this; cases this
theorem tab_new {H : Hp} {PF : Addr} (h : H PF = some (.tbl #[])) : Tab H H PF qLam := ⟨#[], h, trivial, fun pos cv e => by
  have z : codeAmong pos [] = some cv := e
  simp [codeAmong] at z⟩
theorem sq_hid {K : PySem.W.Frag} {H H' : Hp} {PF s0 : Addr} {xs : List V} (hPF : H PF = some (.tbl #[])) (hS : SqL K H s0 xs) (hs : Same (hid [PF] H) H') : SqL K H' s0 xs := by
  have ne : ∀ u, H s0 = some u → (∀ ps, u ≠ .tbl ps) → s0 ∉ [PF] := fun u e n z => by
    rw [List.mem_singleton.mp z, hPF] at e
    exact n _ (Option.some.inj e).symm
  rcases hS with (h | ⟨o, h⟩) | h
  · exact .inl (.inl (hs _ _ (by rw [hid_out (ne _ h fun ps z => nomatch z)]; exact h)))
  · exact .inl (.inr ⟨o, hs _ _ (by rw [hid_out (ne _ h fun ps z => nomatch z)]; exact h)⟩)
  · exact .inr h
theorem back_hid {H H1 B' H' : Hp} {PF l : Addr} {n : Nat} {o : HO} (hs1 : Same (hid [PF] H) H1) (hl : H1 l = none) (S : G.St l (hid [PF] H1) (hid [PF] (upd H1 l o)) n B' H') : Same (hid [PF] H) H' := fun q u e => by
  have hq : q ≠ PF := fun z => by rw [z, hid_in (by simp)] at e; cases e
  have e1 := hs1 q u e
  have hql : q ≠ l := fun z => by rw [z, hl] at e1; cases e1
  exact S.oth q u hql (by rw [hid_out (by simpa using hq), upd_ne hql]; exact e1)
/-- the table of a def that makes functions -/
theorem tab_mk {K : PySem.W.Frag} {x : Str} {f c P : Addr} {oc oc' : Value} {od od' : Option Addr} {fd : FuncData} {sl sl' : Array (Option Value)} {vs : Array Value} (a : PySem.W.nsIn K mainGlobals x = some (some (.ref f))) (l : K.lookup f = some ⟨oc, od, .func fd, sl⟩) (hc : fd.code = .ref c)
    (lc : K.lookup c = some ⟨oc', od', .fields vs, sl'⟩) (lp : vs[11]? = some (.ref P)) : PySem.W.tabIn K x = some (c, P) := by
  unfold PySem.W.tabIn
  rw [a]
  simp only [l, hc, lc, lp]
end G

local macro_rules | `(tactic| walk_at "side") => `(tactic| first | assumption | decide | omega | (exact G.szl' (by omega)) | (exact G.szl'' (by omega)))
local macro_rules | `(tactic| walk_at "ne") => `(tactic| first | assumption | (exact Ne.symm (by assumption)) | (exact L2.ne_of_none (by walk_at "fact") (by assumption)) | (exact Ne.symm (L2.ne_of_none (by walk_at "fact") (by assumption))))
local macro_rules | `(tactic| walk_at "factB") => `(tactic| first | assumption | (refine (by assumption : L2.Same _ _) _ _ ?_; walk_at "factB"))
local macro_rules | `(tactic| walk_at "fact") => `(tactic| first | assumption | (exact L2.upd_same) | (refine (L2.upd_ne ?_).trans ?_; (walk_at "ne"); (walk_at "fact")) | (refine G.St.sub (by assumption) _ _ ?_; walk_at "factB") | (refine G.Pu.sub (by assumption) _ _ ?_; walk_at "factB") | (walk_at "factB") | (refine G.Oth.st (by assumption) _ _ (by assumption) ?_; walk_at "fact") | (refine G.Old.st (by assumption) _ _ ?_; walk_at "fact"))
local macro_rules | `(tactic| walk_at "s1") => `(tactic| with_reducible first
  | refine G.g_seq ?_ | refine G.g_set ?_ | refine G.g_ret ?_ | refine G.g_c ?_ | refine G.g_op ?_ | refine G.g_cons ?_ | refine G.g_nil ?_ | refine G.g_cb ?_ | refine G.g_call ?_
  | refine G.g_call2 ?_ | refine G.g_call1 ?_ | refine G.g_call3 ?_ | refine G.g_call4 ?_ | refine G.g_bl ?_ | refine G.g_if ?_ | refine G.g_test ?_ | refine G.g_B ?_ | refine G.g_next ?_ | refine G.g_asg ?_ | refine G.g_drop ?_
  | refine G.g_and ?_ | refine G.g_or ?_ | refine G.g_not ?_ | refine G.g_ifE ?_ | refine G.g_andV ?_ | refine G.g_orV ?_ | refine G.g_notV ?_ | refine G.g_un ?_ | refine G.g_neg ?_ | refine G.g_lst ?_ | refine G.g_tup ?_
  | refine G.g_sl ?_ | refine G.g_noPart ?_ | refine G.g_part ?_ | refine G.g_int ?_ | refine G.g_sub ?_ | refine G.g_name ?_ | refine G.g_gcons ?_ | refine G.g_gnil ?_ | refine G.g_bm ?_ | refine G.g_bm0 ?_ | refine G.g_m1 ?_ | refine G.g_par ?_ | refine G.g_par2 ?_
  | refine G.WB.mk ?_ | refine G.g_revL ?_ | refine G.g_chain ?_ | refine G.g_izip ?_ | refine G.g_izipS ?_ | refine G.g_ienum ?_ | refine G.g_lc ?_ | refine G.g_for ?_ | refine G.g_rng1 ?_ | refine G.g_rng2 ?_ | refine G.g_ilist ?_ | refine G.g_itup ?_ | refine G.g_istr ?_
  | refine G.dnewK ?_ | refine G.g_lrg1 ?_ | refine G.g_lrg2 ?_ | refine G.lrg2 ?_ | refine G.g_augS ?_ | refine G.g_au1 ?_ | refine G.g_au3 ?_ | refine G.g_ev ?_ | refine G.g_lockE ?_ | refine G.g_orT ?_ | refine G.or_non ?_ | refine G.g_ikeys ?_ | refine G.g_yes ?_ | refine G.g_brk ?_ | refine G.g_cont ?_ | refine L2.iteT ?_ | refine L2.iteF ?_)
local macro_rules | `(tactic| walk_at "s2") => `(tactic| with_reducible first
  | refine G.a_int ?_ | refine G.sub_int ?_ | refine G.lt_int' ?_ | refine G.lt_str' ?_ | refine G.le_int' ?_ | refine G.le_str' ?_ | refine G.gt_int' ?_ | refine G.gt_str' ?_ | refine G.ge_int' ?_ | refine G.ge_str' ?_
  | refine G.eq_int' ?_ | refine G.eq_str' ?_ | refine G.eq_bl' ?_ | refine G.ne_int' ?_ | refine G.ne_str' ?_ | refine G.ne_bl' ?_ | refine G.eq_non ?_ | refine G.ne_non ?_ | refine G.is_non ?_ | refine G.is_bl ?_ | refine G.isn_bl ?_ | refine G.isn_non ?_ | refine G.min_int ?_ | refine G.max_int ?_ | refine G.int_int ?_ | refine G.int_bl ?_ | refine G.abs_int ?_ | refine G.g_ipI ?_)
local macro_rules | `(tactic| walk_at "s3") => `(tactic| first
  | ((with_reducible refine' G.g_var ?e ?_); (case e => exact rfl))
  | ((with_reducible refine' G.g_aug ?e ?_); (case e => exact rfl))
  | ((with_reducible refine' G.disp_1 ?e ?_); (case e => exact rfl))
  | ((with_reducible refine' G.a_str ?c ?_); (case c => walk_at "side"))
  | ((with_reducible refine' G.m_int ?c ?_); (case c => first | (refine Or.inl ⟨?_, ?_⟩ <;> omega) | (refine Or.inr ⟨?_, ?_⟩ <;> omega) | (refine Or.inl ⟨?_, ?_⟩ <;> (walk_at "side")) | (refine Or.inr ⟨?_, ?_⟩ <;> (walk_at "side"))))
  | ((with_reducible refine' G.mod_int ?c ?_); (case c => walk_at "side"))
  | ((with_reducible refine' G.div_int ?c ?d ?_); (case c => walk_at "side"); (case d => walk_at "side"))
  | ((with_reducible refine' G.pow_int ?c ?_); (case c => (refine ⟨?_, ?_, ?_⟩ <;> decide)))
  | ((with_reducible refine' G.ix_lst ?c ?d ?_); (case c => walk_at "fact"); (case d => first | assumption | rfl))
  | ((with_reducible refine' G.ix_tpl ?c ?d ?_); (case c => walk_at "fact"); (case d => first | assumption | rfl))
  | ((with_reducible refine' G.ix_sql ?c ?d ?_); (case c => assumption); (case d => first | assumption | rfl))
  | ((with_reducible refine' G.ix_text ?c ?d ?_); (case c => walk_at "side"); (case d => first | assumption | rfl))
  | ((with_reducible refine' G.sl_text ?c ?_); (case c => walk_at "side"))
  | ((with_reducible refine' G.len_lst ?c ?_); (case c => walk_at "fact"))
  | ((with_reducible refine' G.len_tup ?c ?_); (case c => walk_at "fact"))
  | ((with_reducible refine' G.len_sql ?c ?_); (case c => assumption))
  | ((with_reducible refine' G.dlen ?c ?_); (case c => walk_at "fact"))
  | ((with_reducible refine' G.din_i ?c ?_); (case c => walk_at "fact"))
  | ((with_reducible refine' G.din_s ?c ?_); (case c => walk_at "fact"))
  | ((with_reducible refine' G.din_n ?c ?_); (case c => walk_at "fact"))
  | ((with_reducible refine' G.dnin_i ?c ?_); (case c => walk_at "fact"))
  | ((with_reducible refine' G.dnin_s ?c ?_); (case c => walk_at "fact"))
  | ((with_reducible refine' G.dnin_n ?c ?_); (case c => walk_at "fact"))
  | ((with_reducible refine' G.dget_i ?c ?d ?_); (case c => walk_at "fact"); (case d => assumption))
  | ((with_reducible refine' G.dgetF_i ?c ?d ?_); (case c => walk_at "fact"); (case d => assumption))
  | ((with_reducible refine' G.dget_s ?c ?d ?_); (case c => walk_at "fact"); (case d => assumption))
  | ((with_reducible refine' G.len_text ?c ?_); (case c => walk_at "side"))
  | ((with_reducible refine' G.g_gtupG ?c ?d ?_); (case c => exact Or.inl (Or.inl (by walk_at "fact"))); (case d => exact rfl))
  | ((with_reducible refine' G.g_gunl ?c ?d ?_); (case c => exact Or.inl (Or.inl (by walk_at "fact"))); (case d => exact rfl))
  | ((with_reducible refine' G.g_tyl ?c ?_); (case c => walk_at "fact"))
  | ((with_reducible refine' G.rev_ip ?c ?_); (case c => walk_at "fact"))
  | ((with_reducible refine' G.clear_ip ?c ?_); (case c => walk_at "fact"))
  | ((with_reducible refine' G.rev_lst ?c ?_); (case c => walk_at "fact"))
  | ((with_reducible refine' G.list_lst ?c ?_); (case c => walk_at "fact"))
  | ((with_reducible refine' G.tuple_lst ?c ?_); (case c => walk_at "fact"))
  | ((with_reducible refine' G.LcT.mk ?c ?_); (case c => exact rfl))
  | ((with_reducible refine' G.NewL.mk ?c ?_); (case c => exact Nat.le_of_ble_eq_true rfl))
  | ((with_reducible refine' G.NewT.mk ?c ?_); (case c => exact Nat.le_of_ble_eq_true rfl))
  | ((with_reducible refine' G.setL_lst ?c ?d ?_); (case c => walk_at "fact"); (case d => rfl)))
local macro_rules | `(tactic| walk_at "s4") => `(tactic| ((with_reducible refine' G.use_pick (by assumption) ?c0 ?c1 ?c2 ?_); (case c0 => omega); (case c1 => first | decide | omega | (simp only [List.length_cons, List.length_nil]; omega)); (case c2 => first | decide | omega | (simp only [List.length_cons, List.length_nil]; omega)); (intro _ _ _ _ _ _)))
local macro_rules | `(tactic| walk_at "s5") => `(tactic| first | ((with_reducible refine' G.St.atNew (o := L2.HO.tup _) (by assumption) ?_); (intro _ _ _ _ _ _ _ _)) | ((with_reducible refine' G.St.atNew (o := L2.HO.lst (_ :: _)) (by assumption) ?_); (intro _ _ _ _ _ _ _ _)) | ((with_reducible refine' G.Pu.atNew (o := L2.HO.tup _) (by assumption) ?_); (intro _ _ _ _ _ _ _ _)) | ((with_reducible refine' G.Pu.atNew (o := L2.HO.lst (_ :: _)) (by assumption) ?_); (intro _ _ _ _ _ _ _ _)))
local macro_rules | `(tactic| walk_at "s6") => `(tactic| first
  | with_reducible refine G.isi_non_int ?_
  | with_reducible refine G.isi_non_str ?_
  | with_reducible refine G.isi_non_bool ?_
  | with_reducible refine G.isi_non_list ?_
  | with_reducible refine G.isi_non_tuple ?_
  | ((with_reducible refine' G.isi2_non ?d ?_); (case d => walk_at "fact"))
  | with_reducible refine G.isi_bl_int ?_
  | with_reducible refine G.isi_bl_str ?_
  | with_reducible refine G.isi_bl_bool ?_
  | with_reducible refine G.isi_bl_list ?_
  | with_reducible refine G.isi_bl_tuple ?_
  | ((with_reducible refine' G.isi2_bl ?d ?_); (case d => walk_at "fact"))
  | with_reducible refine G.isi_int_int ?_
  | with_reducible refine G.isi_int_str ?_
  | with_reducible refine G.isi_int_bool ?_
  | with_reducible refine G.isi_int_list ?_
  | with_reducible refine G.isi_int_tuple ?_
  | ((with_reducible refine' G.isi2_int ?d ?_); (case d => walk_at "fact"))
  | with_reducible refine G.isi_str_int ?_
  | with_reducible refine G.isi_str_str ?_
  | with_reducible refine G.isi_str_bool ?_
  | with_reducible refine G.isi_str_list ?_
  | with_reducible refine G.isi_str_tuple ?_
  | ((with_reducible refine' G.isi2_str ?d ?_); (case d => walk_at "fact"))
  | ((with_reducible refine' G.isi_lst_int ?c ?_); (case c => walk_at "fact"))
  | ((with_reducible refine' G.isi_lst_str ?c ?_); (case c => walk_at "fact"))
  | ((with_reducible refine' G.isi_lst_bool ?c ?_); (case c => walk_at "fact"))
  | ((with_reducible refine' G.isi_lst_list ?c ?_); (case c => walk_at "fact"))
  | ((with_reducible refine' G.isi_lst_tuple ?c ?_); (case c => walk_at "fact"))
  | ((with_reducible refine' G.isi2_lst ?c ?d ?_); (case c => walk_at "fact"); (case d => walk_at "fact"))
  | ((with_reducible refine' G.isi_tup_int ?c ?_); (case c => walk_at "fact"))
  | ((with_reducible refine' G.isi_tup_str ?c ?_); (case c => walk_at "fact"))
  | ((with_reducible refine' G.isi_tup_bool ?c ?_); (case c => walk_at "fact"))
  | ((with_reducible refine' G.isi_tup_list ?c ?_); (case c => walk_at "fact"))
  | ((with_reducible refine' G.isi_tup_tuple ?c ?_); (case c => walk_at "fact"))
  | ((with_reducible refine' G.isi2_tup ?c ?d ?_); (case c => walk_at "fact"); (case d => walk_at "fact")))
local macro_rules | `(tactic| walk_at "dec") => `(tactic| first | rfl | assumption | omega | (intro hh; cases hh; done) | (intro hh; contradiction) | decide)
local macro_rules | `(tactic| walk_at "s7") => `(tactic| first
  | with_reducible refine G.if_ny ?_
  | with_reducible refine G.if_isS ?_
  | with_reducible refine G.if_isN ?_
  | with_reducible refine G.if_nisS ?_
  | with_reducible refine G.if_nisN ?_
  | with_reducible refine G.if_nn ?_
  | ((with_reducible refine' G.if_yes ?c ?_); (case c => walk_at "dec"))
  | ((with_reducible refine' G.if_no ?c ?_); (case c => walk_at "dec"))
  | ((with_reducible refine' G.if_nyes ?c ?_); (case c => walk_at "dec"))
  | ((with_reducible refine' G.if_nno ?c ?_); (case c => walk_at "dec")))
local macro_rules | `(tactic| walk_at "go") => `(tactic| repeat (first | (walk_at "s1") | (walk_at "s2") | (walk_at "s3") | (walk_at "s4") | (walk_at "s5") | (walk_at "s6") | (walk_at "s7")))
local macro_rules | `(tactic| walk_at "s5t") => `(tactic| first | ((with_reducible refine' G.St.atNew (o := L2.HO.tup _) (by assumption) ?_); (intro _ _ _ _ _ _ _ _)) | ((with_reducible refine' G.Pu.atNew (o := L2.HO.tup _) (by assumption) ?_); (intro _ _ _ _ _ _ _ _)))
local macro_rules | `(tactic| walk_at "gov") => `(tactic| repeat (first | (walk_at "s1") | (walk_at "s2") | (walk_at "s3") | (walk_at "s4") | (walk_at "s5t") | (walk_at "s6") | (walk_at "s7")))

namespace L
open PySem PySem.Spec PyProof.Rows L2 TL G
def topS (i : Nat) : Stmt := PySem.Challenge.pw_mergetree_k39_free_ones.main.body.getD i (.Pass ⟨0, 0, 0, 0⟩)
abbrev s_free_plan : Stmt := topS 1
abbrev N_free_plan : List Str := ["sizes", "ways", "there", "n", "size", "fresh", "cost", "many", "some", "one"]
theorem sc_free_plan : FnScope N_free_plan ["sizes", "ways"] (defScope s_free_plan) := ⟨rfl, rfl, rfl, by decide +kernel, rfl, by decide +kernel, by decide +kernel⟩
structure FrA where
  ps : Addr
  ns : List Int
  w : Nat
def sp_free_plan (PF : Addr) : Sp := spMt (T := FrA) (fun B H Z vs x => Z = [PF] ∧ vs = [.ref x.ps, .int x.w] ∧ B x.ps = some (.lst (x.ns.map V.int)) ∧ 1 ≤ x.ns.length ∧ x.ns.length ≤ 50 ∧ 2 ≤ x.w ∧ x.w ≤ 50 ∧ Tab B H PF qLam)
  (fun B' H' Z' x v => Z' = [PF] ∧ Dt B' v (.tuple [.int (freeF x.ns x.w).1, encPT (freeF x.ns x.w).2]) ∧ Tab B' H' PF qLam)
theorem cutV_take (xs : List V) (k : Nat) : cutV xs none (some (k : Int)) = xs.take k := by
  have := cut_take (fun v : V => v) xs k
  rw [List.map_id', List.map_id'] at this
  exact this
theorem cutV_drop (xs : List V) (k : Nat) : cutV xs (some (k : Int)) none = xs.drop k := by
  have := cut_drop (fun v : V => v) xs k
  rw [List.map_id', List.map_id'] at this
  exact this
theorem tab_go {B H B' H' : Hp} {P : Addr} {q : Str} (T : Tab B H P q) (O : Old B H B' H') (K : Same B B') (b : B P = none) : Tab B' H' P q ∧ B' P = none := by
  obtain ⟨ps, h1, h2, h3⟩ := T
  refine ⟨⟨ps, O.st _ _ h1, h2, fun pos cv e => ?_⟩, by rw [O.fr P (by rw [h1]; exact fun z => nomatch z)]; exact b⟩
  obtain ⟨c, e1, e2, e3⟩ := h3 pos cv e
  exact ⟨c, e1, e2, K _ _ e3⟩
theorem ones_at {ns : List Int} {k : Nat} {y : V} (h : (ns.map V.int)[k]? = some y) : ∃ z, y = .int z ∧ (ones ns)[k]? = some (z, (k : Int), .lf (k : Int)) := by
  rw [List.getElem?_map] at h
  obtain ⟨z, hz, rfl⟩ := Option.map_eq_some_iff.mp h
  refine ⟨z, rfl, ?_⟩
  unfold ones
  rw [List.getElem?_map, List.getElem?_zipIdx, hz]
  simp
theorem ones_len (ns : List Int) : (ones ns).length = ns.length := by unfold ones; rw [List.length_map, List.length_zipIdx]
theorem dt_fi {B : Hp} {v : V} {x : FI} (h : Dt B v (encF x)) : ∃ p t, v = .ref p ∧ B p = some (.tup [.int x.1, .int x.2.1, t]) ∧ Dt B t (encPT x.2.2) := by
  obtain ⟨p, vs, ev, hp, hvs⟩ := h.tuple
  cases hvs with
  | cons a1 hvs =>
    cases hvs with
    | cons a2 hvs =>
      cases hvs with
      | cons a3 hvs =>
        cases hvs
        rw [a1.i, a2.i] at hp
        exact ⟨p, _, ev, hp, a3⟩
theorem ok_free_plan {P : Program} {w : World} {K : PySem.W.Frag} {mg : Str → Option Value} {base : Heap} (B : Blt mg)  {cF PF : Addr} (TL : LamX.TabB base mg cF PF)  {f : Addr} {fd : FuncData} (F : FunT K "free_plan" "free_plan" s_free_plan f fd cF) :
    FnG P w K mg base CX0 1 f fd ["sizes", "ways"] (sp_free_plan PF) := by
  refine okGT F sc_free_plan (fun vs H Q E h => ?_) (fun A outer s H vs Q E hr h => ?_)
  · obtain ⟨B, Z, x, _, _, ⟨_, rfl, _⟩, _⟩ := h; rfl
  · have nd := sc_free_plan.nd
    obtain ⟨B0, Z, ⟨ps, ns, w⟩, hsub, hV, ⟨rfl, hvs, hps, hn1, hn2, hw2, hw3, hTb⟩, q⟩ := h
    dsimp only at hvs hps hn1 hn2 hw2 hw3 q
    subst hvs
    refine ⟨_, (pss_cons (ps_setLc (i := 2) (own := [("n", 3), ("size", 4)]) (tt := tYes) (by rfl) nd rfl rfl (sw_true rfl rfl rfl (by decide +kernel)) (pi_enumK (K := K) (by rfl) B.enumerate_ (pa_cons (pv 0) pa_nil)) (blkOk_by (N := N_free_plan) (own := [("n", 3), ("size", 4)]) (sc := defScope s_free_plan) (by decide +kernel)) (fun _ _ _ _ _ => (pg_tupG (K := K) (n := 2) (by rfl) (pgs_cons (pg_name (i := 3) nd rfl (by first | exact Or.inl rfl | exact Or.inr rfl)) (pgs_cons (pg_name (i := 4) nd rfl (by first | exact Or.inl rfl | exact Or.inr rfl)) pgs_nil)))) (fun _ _ _ _ _ => pts_nil) (fun _ _ _ _ _ => (pe_tup (pa_cons (pv 4) (pa_cons (pv 3) (pa_cons (pv 3) pa_nil))))))
        (pss_cons (ps_set (i := 5) nd rfl (.inl rfl) (pe_callB (oLen (K := K)) (by rfl) B.len_ (by decide +kernel) (pa_cons (pv 0) pa_nil)))
        (pss_cons (ps_set (i := 6) nd rfl (.inl rfl) pe_int)
        (pss_cons (ps_set (i := 7) nd rfl (.inl rfl) (pe_op (oAdd (K := K)) pe_int (pe_op oMod (pe_op oSub (pe_callB (oLen (K := K)) (by rfl) B.len_ (by decide +kernel) (pa_cons (pv 0) pa_nil)) pe_int) (pe_op oSub (pv 1) pe_int))))
        (pss_cons (ps_while PassesOwn.never (pt_cmpR (oGt hr.units) (pe_callB (oLen (K := K)) (by rfl) B.len_ (by decide +kernel) (pa_cons (pv 2) pa_nil)) pe_int (nomark _))
        (pss_cons (ps_set (i := 2) nd rfl (.inl rfl) (G.pe_srtL (x := "one") (by exact ⟨rfl, rfl, rfl, by decide, by decide, rfl, fun _ _ _ _ _ => rfl, ⟨_, _, _, _, _, rfl⟩, rfl, fun _ => rfl⟩) TL rfl hr (by rfl) B.sorted_ (pv 2) (q := qLam)))
        (pss_cons (ps_set (i := 8) nd rfl (.inl rfl) (pe_slice (oSl (K := K)) (pv 2) po_none (po_some (pv 7))))
        (pss_cons (ps_set (i := 4) nd rfl (.inl rfl) (pe_callB (oSum (K := K) rfl) (by rfl) B.sum_ (by decide +kernel) (pa_cons (pe_lc (own := [("one", 9)]) (g := gName 9) (tt := tYes) (by rfl) nd (pi_listK (K := K) (pv 8)) (blkOk_by (N := N_free_plan) (own := [("one", 9)]) (sc := defScope s_free_plan) (by decide +kernel)) (fun _ _ _ _ _ => (pg_name (i := 9) nd rfl (by first | exact Or.inl rfl | exact Or.inr rfl))) (fun _ _ _ _ _ => pts_nil) (fun _ _ _ _ _ => (pe_ix (oIx (K := K) hr.units) (pv 9) pe_int (fun _ _ => rfl)))) pa_nil)))
        (pss_cons (ps_set (i := 2) nd rfl (.inl rfl) (pe_op (oAdd (K := K)) (pe_slice (oSl (K := K)) (pv 2) (po_some (pv 7)) po_none) (pe_lst (pa_cons (pe_tup (pa_cons (pv 4) (pa_cons (pv 5) (pa_cons (pe_callTy (oTuple (K := K)) (by rfl) B.tuple_ (by decide +kernel) (pa_cons (pe_lc (own := [("one", 9)]) (g := gName 9) (tt := tYes) (by rfl) nd (pi_listK (K := K) (pv 8)) (blkOk_by (N := N_free_plan) (own := [("one", 9)]) (sc := defScope s_free_plan) (by decide +kernel)) (fun _ _ _ _ _ => (pg_name (i := 9) nd rfl (by first | exact Or.inl rfl | exact Or.inr rfl))) (fun _ _ _ _ _ => pts_nil) (fun _ _ _ _ _ => (pe_ix (oIx (K := K) hr.units) (pv 9) pe_int (fun _ _ => rfl)))) pa_nil)) pa_nil)))) pa_nil))))
        (pss_cons (ps_aug (i := 6) nd rfl (.inl rfl) (pv 4) ip_add)
        (pss_cons (ps_aug (i := 5) nd rfl (.inl rfl) pe_int ip_add)
        (pss_one (ps_set (i := 7) nd rfl (.inl rfl) (pv 1))))))))))
        (pss_one (ps_ret (pe_tup (pa_cons (pv 6) (pa_cons (pe_ix (oIx (K := K) hr.units) (pe_ix (oIx (K := K) hr.units) (pv 2) pe_int (fun _ _ => rfl)) pe_int (fun _ _ => rfl)) pa_nil)))))))))), ?_⟩
    have S0 : Pu B0 (hid [PF] H) B0 H := ⟨Same.refl _, hsub, hid_same _, fun _ _ => rfl⟩
    have hml : (ns.map V.int).length = ns.length := List.length_map ..
    walk_at "gov"
    refine ⟨ps, ns.map V.int, rfl, .inl (.inl (S0.sub _ _ hps)), ?_⟩
    refine S0.lc (wk_enum ps (ns.map V.int)) (by omega) (fun H' s => .inl (.inl (s _ _ hps))) (fun k B acc => Dts B acc (((ones ns).take k).map encF)) .nil (fun _ _ _ _ s r => r.mono s)
      (fun k x acc B1 H1 H1' hk K1 S1 hy hI hl Qk Qn qk qn => ?_) (fun p B1 H1 acc S1 O1 K1 n1 e1 hI => ?_)
    · obtain ⟨T, y, rfl, nT, rfl, hy⟩ := hy
      obtain ⟨z, rfl, ho⟩ := ones_at hy
      have S2 : Pu B1 H1 _ _ := (Pu.new S1).alloc (o := .tup [.int k, .int z]) nT
      have hT : (upd B1 T (.tup [.int k, .int z])) T = some (.tup [.int k, .int z]) := upd_same
      have hI2 := hI.mono (Same.updN (o := .tup [.int k, .int z]) (S1.free nT))
      generalize upd B1 T (.tup [.int k, .int z]) = B2 at *
      generalize upd H1 T (.tup [.int k, .int z]) = H2 at *
      walk_at "gov"
      rename_i pt B3 H3 S3 O3 K3 n3 e3
      refine qk _ _ _ S3 ?_
      rw [List.take_add_one, ho, List.map_append]
      exact (hI2.mono K3).app (.cons (.tup e3 (.cons (.int _) (.cons (.int _) (.cons (dt_lf _) .nil)))) .nil)
    rw [hml, List.take_of_length_le (by rw [ones_len]; exact Nat.le_refl _)] at hI
    obtain ⟨T1, bP1⟩ := tab_go hTb O1 K1 (hV PF List.mem_cons_self)
    have hm0 : (2 : Int) + ((ns.length : Int) - 2) % ((w : Int) - 1) = ((many0 ns.length w : Nat) : Int) := by
      unfold many0
      have := Int.emod_nonneg ((ns.length : Int) - 2) (show (w : Int) - 1 ≠ 0 by omega)
      omega
    walk_at "gov"
    rw [hml, hm0]
    refine g_while (fun mm σ H' => ∃ (v3 v4 v8 v9 : Option V) (p : Addr) (B' : Hp) (xs : List V) (th : List FI) (fr : Int) (m f : Nat) (c : Int), σ = [some (.ref ps), some (.int w), some (.ref p), v3, v4, some (.int fr), some (.int c), some (.int m), v8, v9] ∧ Pu B0 (hid [PF] H) B' H' ∧ Same B0 B' ∧ Tab B' H' PF qLam ∧ B' PF = none ∧
        B' p = some (.lst xs) ∧ Dts B' xs (th.map encF) ∧ freeR w f th fr m c = freeF ns w ∧ th.length ≤ f + 1 ∧ 1 ≤ th.length ∧ th.length ≤ 50 ∧ Fit w th.length m ∧ mm = th.length) ns.length
      ⟨_, _, _, _, p, B1, acc, ones ns, ns.length, many0 ns.length w, ns.length, 0, rfl, S1, K1, T1, bP1, e1, hI, rfl, by rw [ones_len]; omega, by rw [ones_len]; exact hn1, by rw [ones_len]; exact hn2, by rw [ones_len]; exact fit0 hw2 hn1, (ones_len ns).symm⟩ ?_
    clear S0 S1 hI e1 K1 T1 bP1 n1 O1
    rintro mm σ' H5 ⟨v3, v4, v8, v9, p, B5, xs, th, fr, m, f, c, rfl, S5, K5, T5, bP5, ep, D5, hr5, hf5, h1, h50, hfit, rfl⟩
    have hxl : xs.length = th.length := by rw [D5.len, List.length_map]
    by_cases hc : th.length ≤ 1
    · have hfin : freeR w f th fr m c = (c, headF th) := by
        cases f with
        | zero => rfl
        | succ f => unfold freeR; rw [if_pos hc]
      obtain ⟨x, rfl⟩ : ∃ x, th = [x] := by
        match th, h1, hc with
        | [x], _, _ => exact ⟨x, rfl⟩
      obtain ⟨v, rfl, hv⟩ : ∃ v, xs = [v] ∧ Dt B5 v (encF x) := by
        cases D5 with
        | cons a b => cases b; exact ⟨_, rfl, a⟩
      obtain ⟨pt, t, rfl, ept, ht⟩ := dt_fi hv
      have hx1 : ([V.ref pt] : List V).length = 1 := rfl
      walk_at "gov"
      rename_i pr B6 H6 S6 O6 K6 n6 e6
      rw [← hr5, hfin] at q
      obtain ⟨T6, bP6⟩ := tab_go T5 O6 K6 bP5
      exact q _ _ _ [PF] S6 (fun q hq => ⟨by rw [List.mem_singleton.mp hq]; exact bP6, .inl hq⟩) ⟨rfl, .tup e6 (.cons (.int _) (.cons (ht.mono K6) .nil)), T6⟩
    · have hlt : 1 < xs.length := by omega
      walk_at "gov"
      refine g_srtL ?_
      walk_at "gov"
      refine S5.srtL T5 (hid_in (by simp)) bP5 ep D5 (by omega) fun p6 B6 H6 ys S6 K6 T6 bP6 e6 D6 => ?_
      walk_at "gov"
      have hyl : ys.length = th.length := by rw [D6.len, List.length_map, srtF_len]
      have hsl := srtF_len th
      refine sl_lst (S6.sub _ _ e6) ?_
      rw [cutV_take]
      refine S6.atNew fun p7 B7 H7 S7 O7 K7 n7 e7 => ?_
      obtain ⟨T7, bP7⟩ := tab_go T6 O7 K7 bP6
      have e67 := K7 _ _ e6
      have Dt7 : Dts B7 (ys.take m) (((srtF th).take m).map encF) := by
        have := Dts.take m (D6.mono K7)
        rw [← List.map_take] at this
        exact this
      have Dd7 : Dts B7 (ys.drop m) (((srtF th).drop m).map encF) := by
        have := Dts.drop m (D6.mono K7)
        rw [← List.map_drop] at this
        exact this
      have htl : (ys.take m).length = ((srtF th).take m).length := by rw [Dt7.len, List.length_map]
      have htk : (ys.take m).length ≤ 50 := by rw [List.length_take]; omega
      clear S5 S6 T5 T6 D5 D6
      walk_at "gov"
      refine ⟨p7, rfl, ⟨_, .inl (.inl (S7.sub _ _ e7))⟩, ?_⟩
      refine S7.lc (wk_list p7 (ys.take m)) (by omega) (fun H' s => .inl (.inl (s _ _ e7))) (fun k B acc => acc = (((srtF th).take m).take k).map fun x => V.int x.1) rfl (fun _ _ _ _ s r => r)
        (fun k v acc B8 H8 H8' hk K8 S8 hy hI hl Qk Qn qk qn => ?_) (fun p8 B8 H8 acc S8 O8 K8 n8 e8 hI => ?_)
      · obtain ⟨rfl, hv⟩ := hy
        obtain ⟨d, hd, hvd⟩ := (Dt7.mono K8).at hv
        rw [List.getElem?_map] at hd
        obtain ⟨x, hx, rfl⟩ := Option.map_eq_some_iff.mp hd
        obtain ⟨pt, t, rfl, ept, ht⟩ := dt_fi hvd
        walk_at "gov"
        exact qk _ _ _ (Pu.new S8) (by rw [hI, List.take_add_one, hx, List.map_append]; rfl)
      have e8' : B8 p8 = some (.lst ((((srtF th).take m).map (·.1)).map V.int)) := by
        rw [e8, hI, htl, List.take_length, List.map_map]; rfl
      obtain ⟨T8, bP8⟩ := tab_go T7 O8 K8 bP7
      clear S7 T7
      refine sum_ints (S8.sub _ _ e8') ?_
      walk_at "gov"
      refine sl_lst (S8.sub _ _ (K8 _ _ e67)) ?_
      rw [cutV_drop]
      refine S8.atNew fun p9 B9 H9 S9 O9 K9 n9 e9 => ?_
      obtain ⟨T9, bP9⟩ := tab_go T8 O9 K9 bP8
      have e79 := K9 _ _ (K8 _ _ e7)
      have Dt9 := (Dt7.mono K8).mono K9
      have Dd9 := (Dd7.mono K8).mono K9
      clear S8 T8
      walk_at "gov"
      refine ⟨p7, rfl, ⟨_, .inl (.inl (S9.sub _ _ e79))⟩, ?_⟩
      refine S9.lc (wk_list p7 (ys.take m)) (by omega) (fun H' s => .inl (.inl (s _ _ e79))) (fun k B acc => Dts B acc ((((srtF th).take m).take k).map fun x : FI => encPT x.2.2)) .nil (fun _ _ _ _ s r => r.mono s)
        (fun k v acc B10 H10 H10' hk K10 S10 hy hI hl Qk Qn qk qn => ?_) (fun p10 B10 H10 acc S10 O10 K10 n10 e10 hI => ?_)
      · obtain ⟨rfl, hv⟩ := hy
        obtain ⟨d, hd, hvd⟩ := (Dt9.mono K10).at hv
        rw [List.getElem?_map] at hd
        obtain ⟨x, hx, rfl⟩ := Option.map_eq_some_iff.mp hd
        obtain ⟨pt, t, rfl, ept, ht⟩ := dt_fi hvd
        walk_at "gov"
        refine qk _ _ _ (Pu.new S10) ?_
        rw [List.take_add_one, hx, List.map_append]
        exact hI.app (.cons ht .nil)
      rw [htl, List.take_length] at hI
      obtain ⟨T10, bP10⟩ := tab_go T9 O10 K10 bP9
      clear S9 T9
      walk_at "gov"
      rename_i p11 B11 H11 S11 O11 K11 n11 e11 p12 B12 H12 S12 O12 K12 n12 e12
      obtain ⟨T11, bP11⟩ := tab_go T10 O11 K11 bP10
      obtain ⟨T12, bP12⟩ := tab_go T11 O12 K12 bP11
      refine S12.atNew fun p13 B13 H13 S13 O13 K13 n13 e13 => ?_
      obtain ⟨T13, bP13⟩ := tab_go T12 O13 K13 bP12
      clear S11 S12 T11 T12
      have e9' := K13 _ _ (K12 _ _ (K11 _ _ (K10 _ _ e9)))
      have kk : Same B9 B13 := fun q o e => K13 _ _ (K12 _ _ (K11 _ _ (K10 _ _ e)))
      have Dd13 := Dd9.mono kk
      have hz : (ys.drop m).length + ([V.ref p12] : List V).length ≤ sizeLine := by
        rw [List.length_drop, sizeLine_eq]
        show _ + 1 ≤ _
        omega
      refine a_lst (S13.sub _ _ e9') (S13.sub _ _ e13) hz ?_
      refine S13.atNew fun p14 B14 H14 S14 O14 K14 n14 e14 => ?_
      obtain ⟨T14, bP14⟩ := tab_go T13 O14 K14 bP13
      clear S13 T13
      walk_at "gov"
      obtain ⟨f, rfl⟩ : ∃ f', f = f' + 1 := ⟨f - 1, by omega⟩
      have hnx : freeR w (f + 1) th fr m c = freeR w f (nextF m fr th) (fr + 1) w (c + costS ((srtF th).take m)) := by
        show (if th.length ≤ 1 then _ else _) = _
        rw [if_neg hc]
      have hnl := nextF_len (m := m) (fr := fr) (th := th)
      have hm2 : 2 ≤ m ∧ m ≤ th.length := by
        rcases hfit with h | ⟨h1, _, h3, _⟩
        · omega
        · exact ⟨h1, h3⟩
      have hnew : Dts B14 (ys.drop m ++ [V.ref p12]) ((nextF m fr th).map encF) := by
        unfold nextF
        rw [List.map_append]
        refine (Dd13.mono K14).app (.cons (.tup (K14 _ _ (K13 _ _ e12)) (.cons (.int _) (.cons (.int _) (.cons ?_ .nil)))) .nil)
        exact dt_nd (K14 _ _ (K13 _ _ (K12 _ _ e11))) (by
          show Dts B14 acc (List.map encPT (((srtF th).take m).map (·.2.2)))
          rw [List.map_map]
          exact hI.mono fun q o e => K14 _ _ (K13 _ _ (K12 _ _ (K11 _ _ e))))
      exact ⟨_, by rw [hnl]; omega, _, _, _, _, p14, B14, _, nextF m fr th, fr + 1, w, f, c + costS ((srtF th).take m), rfl, S14, fun q o e => K14 _ _ (kk _ _ (K9 _ _ (K8 _ _ (K7 _ _ (K6 _ _ (K5 _ _ e)))))), T14, bP14, e14, hnew, hnx.symm.trans hr5, by rw [hnl]; omega, by rw [hnl]; omega, by rw [hnl]; omega, by rw [hnl]; exact hfit.next hw2 hc, rfl⟩
abbrev s_w_left : Stmt := topS 4
abbrev N_w_left : List Str := ["_law_script", "_law_k", "_law_cell"]
theorem sc_w_left : FnScope N_w_left ["_law_script", "_law_k"] (defScope s_w_left) := ⟨rfl, rfl, rfl, by decide +kernel, rfl, by decide +kernel, by decide +kernel⟩
def cellF (ns : List Int) (k : Int) : Int := if k < ns.length then ns.getD k.toNat 0 else 0
def leftF (ns : List Int) (k : Int) : List V :=
  [.int ((if cellF ns k < 0 then -cellF ns k else cellF ns k) * (if decide ((10 : Int) ^ (18 : Int).toNat ≤ (if cellF ns k < 0 then -cellF ns k else cellF ns k)) = true then 1 else 0)), .int (cellF ns k + 1000003 * k), .int 0]
theorem leftF_ok (ns : List Int) (k : Int) : LeftO 1152921504606846976 (.lst (leftF ns k)) := by
  refine ⟨_, _, _, rfl, ?_, by decide, by decide⟩
  by_cases h : cellF ns k < 0
  · rw [if_pos h]
    split <;> simp <;> omega
  · rw [if_neg h]
    split <;> simp <;> omega
def sp_w_left (K : PySem.W.Frag) : Sp := fun vs H Q _ => ∃ (s : Addr) (ns : List Int) (k : Int), vs = [.ref s, .int k] ∧ SqL K H s (ns.map V.int) ∧ 0 ≤ k ∧ k < 4294967296 ∧
  ∀ a, H a = none → Q (.ref a) (upd H a (.lst (leftF ns k)))
theorem ok_w_left {P : Program} {w : World} {K : PySem.W.Frag} {mg : Str → Option Value} {base : Heap} (B : Blt mg)   {f : Addr} {fd : FuncData} (F : Fun K "_law_left" "_law_left" s_w_left f fd) :
    FnG P w K mg base CX0 1 f fd ["_law_script", "_law_k"] (sp_w_left K) := by
  refine okG F sc_w_left (fun vs H Q E h => ?_) (fun cdv A outer s H vs Q E hr h => ?_)
  · obtain ⟨s, ns, k, rfl, _⟩ := h; rfl
  · have nd := sc_w_left.nd
    obtain ⟨s, ns, k, rfl, hS, h0, h1, q⟩ := h
    refine ⟨_, (pss_cons (ps_set (i := 2) nd rfl (.inl rfl) (pe_ifExp (pt_cmpR (oLt hr.units) (pv 1) (pe_callB (oLen (K := K)) (by rfl) B.len_ (by decide +kernel) (pa_cons (pv 0) pa_nil)) (nomark _)) (pe_ix (oIx (K := K) hr.units) (pv 0) (pv 1) (fun _ _ => rfl)) pe_int))
        (pss_one (ps_ret (pe_lst (pa_cons (pe_op oMul (pe_callB oAbs (by rfl) B.abs_ (by decide +kernel) (pa_cons (pv 2) pa_nil)) (pe_callTy oInt (by rfl) B.int_ (by decide +kernel) (pa_cons (pe_cmpR (oGe hr.units) (pe_callB oAbs (by rfl) B.abs_ (by decide +kernel) (pa_cons (pv 2) pa_nil)) (pe_op oPow pe_int pe_int) (nomark _)) pa_nil))) (pa_cons (pe_op (oAdd (K := K)) (pv 2) (pe_op oMul pe_int (pv 1))) (pa_cons pe_int pa_nil))))))), ?_⟩
    walk_at "go"
    refine g_ite (fun hc => ?_) (fun hc => ?_)
    · have hk : k < (ns.length : Int) := by rw [List.length_map] at hc; exact hc
      have hi : atI (ns.map V.int) k = some (.int (cellF ns k)) := by
        obtain ⟨j, rfl⟩ : ∃ j : Nat, k = (j : Int) := ⟨k.toNat, by omega⟩
        have hj : j < ns.length := by omega
        refine atI_nat ?_
        rw [List.getElem?_map, List.getElem?_eq_getElem hj]
        show some (V.int ns[j]) = some (V.int (cellF ns j))
        unfold cellF
        rw [if_pos hk, Int.toNat_natCast, List.getD_eq_getElem?_getD, List.getElem?_eq_getElem hj]
        rfl
      walk_at "go"
      exact q
    · have hk : ¬ k < (ns.length : Int) := by rw [List.length_map] at hc; exact hc
      have hz : cellF ns k = 0 := if_neg hk
      walk_at "go"
      unfold leftF at q
      rw [hz] at q
      exact q
abbrev s_w_mix : Stmt := topS 3
abbrev N_w_mix : List Str := ["_law_cell", "_law_k", "_law_m"]
theorem sc_w_mix : FnScope N_w_mix ["_law_cell", "_law_k"] (defScope s_w_mix) := ⟨rfl, rfl, rfl, by decide +kernel, rfl, by decide +kernel, by decide +kernel⟩
def mixF (c k : Int) : Int := (((c % 2147483629 + k * k * 7919 + 11) * 48271) % 2147483647) * (((c % 2147483629 + k * k * 7919 + 11) * 48271) % 2147483647) % 1999999973
theorem mixF_nonneg (c k : Int) : 0 ≤ mixF c k := Int.emod_nonneg _ (by decide)
theorem mixF_lt (c k : Int) : mixF c k < 1999999973 := Int.emod_lt_of_pos _ (by decide)
def sp_w_mix : Sp := fun vs H Q _ => ∃ c k : Int, vs = [.int c, .int k] ∧ -9223372036854775808 < k ∧ k < 9223372036854775808 ∧ Q (.int (mixF c k)) H
theorem ok_w_mix {P : Program} {w : World} {K : PySem.W.Frag} {mg : Str → Option Value} {base : Heap} (B : Blt mg)   {f : Addr} {fd : FuncData} (F : Fun K "_law_mix" "_law_mix" s_w_mix f fd) :
    FnG P w K mg base CX0 1 f fd ["_law_cell", "_law_k"] (sp_w_mix) := by
  refine okG F sc_w_mix (fun vs H Q E h => ?_) (fun cdv A outer s H vs Q E hr h => ?_)
  · obtain ⟨c, k, rfl, _⟩ := h; rfl
  · have nd := sc_w_mix.nd
    obtain ⟨c, k, rfl, h0, h1, q⟩ := h
    refine ⟨_, (pss_cons (ps_set (i := 2) nd rfl (.inl rfl) (pe_op oMod (pe_op oMul (pe_op (oAdd (K := K)) (pe_op (oAdd (K := K)) (pe_op oMod (pv 0) pe_int) (pe_op oMul (pe_op oMul (pv 1) (pv 1)) pe_int)) pe_int) pe_int) pe_int))
        (pss_one (ps_ret (pe_op oMod (pe_op oMul (pv 2) (pv 2)) pe_int)))), ?_⟩
    have hm := Int.emod_nonneg ((c % 2147483629 + k * k * 7919 + 11) * 48271) (show (2147483647 : Int) ≠ 0 by decide)
    have hm' := Int.emod_lt_of_pos ((c % 2147483629 + k * k * 7919 + 11) * 48271) (show (0 : Int) < 2147483647 by decide)
    walk_at "go"
    exact q
abbrev s_w_pick : Stmt := topS 5
abbrev N_w_pick : List Str := ["_law_left_here", "_law_many_here", "_law_digit"]
theorem sc_w_pick : FnScope N_w_pick ["_law_left_here", "_law_many_here"] (defScope s_w_pick) := ⟨rfl, rfl, rfl, by decide +kernel, rfl, by decide +kernel, by decide +kernel⟩
abbrev sp_w_pick : Sp := spPick
theorem ok_w_pick {P : Program} {w : World} {K : PySem.W.Frag} {mg : Str → Option Value} {base : Heap} (B : Blt mg)  (c_w_mix : Has P w K mg base 1 "_law_mix" ["_law_cell", "_law_k"] (sp_w_mix))  {f : Addr} {fd : FuncData} (F : Fun K "_law_pick" "_law_pick" s_w_pick f fd) :
    FnG P w K mg base CX0 2 f fd ["_law_left_here", "_law_many_here"] (sp_w_pick) := by
  refine okG F sc_w_pick (fun vs H Q E h => ?_) (fun cdv A outer s H vs Q E hr h => ?_)
  · obtain ⟨a, n, B, m, rfl, _⟩ := h; rfl
  · have nd := sc_w_pick.nd
    obtain ⟨a, n, B0, m, rfl, hsub, hna, hleft, hn, hm0, hm1, q⟩ := h
    obtain ⟨o, hL, x, y, z, rfl, hx, hz, hzn⟩ := hleft
    refine ⟨_, (pss_cons (ps_asg (pe_op (oAdd (K := K)) (pe_ix (oIx (K := K) hr.units) (pv 0) pe_int (fun _ _ => rfl)) pe_int) (pg_sub (pv 0) pe_int (oSet hr.units)))
        (pss_cons (ps_if (pt_cmpR (oGt hr.units) (pe_ix (oIx (K := K) hr.units) (pv 0) pe_int (fun _ _ => rfl)) pe_int (nomark _))
        (pss_cons (ps_set (i := 2) nd rfl (.inl rfl) (pe_op oMod (pe_ix (oIx (K := K) hr.units) (pv 0) pe_int (fun _ _ => rfl)) (pv 1)))
        (pss_cons (ps_asg (pe_op oDiv (pe_ix (oIx (K := K) hr.units) (pv 0) pe_int (fun _ _ => rfl)) (pv 1)) (pg_sub (pv 0) pe_int (oSet hr.units)))
        (pss_one (ps_ret (pv 2)))))
        pss_nil)
        (pss_one (ps_ret (pe_op oMod (pe_op oDiv (pe_callH c_w_mix (hr.mono (by decide)) (by rfl) (pa_cons (pe_callH c_w_mix (hr.mono (by decide)) (by rfl) (pa_cons (pe_ix (oIx (K := K) hr.units) (pv 0) pe_int (fun _ _ => rfl)) (pa_cons (pe_ix (oIx (K := K) hr.units) (pv 0) pe_int (fun _ _ => rfl)) pa_nil))) (pa_cons (pe_op (oAdd (K := K)) (pe_ix (oIx (K := K) hr.units) (pv 0) pe_int (fun _ _ => rfl)) pe_int) pa_nil))) pe_int) (pv 1)))))), ?_⟩
    have fin : ∀ x' y' : Int, 0 ≤ x' → ∀ d : Int, 0 ≤ d → d < m → Q (.int d) (upd H a (.lst [.int x', .int y', .int (z + 1)])) := fun x' y' hx' d h0 h1 => by
      refine q _ _ h0 h1 ⟨Same.refl _, fun p u e => ?_, hna, ⟨_, upd_same, x', y', z + 1, rfl, hx', by omega, by omega⟩, fun p u hp e => by rw [upd_ne hp]; exact e, fun _ _ => rfl⟩
      have : p ≠ a := fun z => by rw [z, hna] at e; cases e
      rw [upd_ne this]; exact hsub p u e
    walk_at "go"
    refine g_ite (fun hc => ?_) (fun hc => ?_)
    · walk_at "go"
      rw [upd_upd]
      exact fin _ _ (Int.ediv_nonneg hx (by omega)) _ (Int.emod_nonneg _ (by omega)) (Int.emod_lt_of_pos _ hm0)
    · walk_at "go"
      refine ⟨_, _, rfl, by omega, by omega, ?_⟩
      walk_at "go"
      refine ⟨_, _, rfl, by omega, by omega, ?_⟩
      walk_at "go"
      exact fin x y hx _ (Int.emod_nonneg _ (by omega)) (Int.emod_lt_of_pos _ hm0)
abbrev s_w_many : Stmt := topS 6
abbrev N_w_many : List Str := ["_law_left_here", "_law_way"]
theorem sc_w_many : FnScope N_w_many ["_law_left_here"] (defScope s_w_many) := ⟨rfl, rfl, rfl, by decide +kernel, rfl, by decide +kernel, by decide +kernel⟩
def sp_w_many : Sp := spG 3 (fun _ rest (_ : Unit) => rest = []) fun _ _ v => ∃ m : Int, v = .int m ∧ 0 ≤ m ∧ m ≤ 12
theorem ok_w_many {P : Program} {w : World} {K : PySem.W.Frag} {mg : Str → Option Value} {base : Heap} (B : Blt mg)  (c_w_pick : Has P w K mg base 2 "_law_pick" ["_law_left_here", "_law_many_here"] (sp_w_pick))  {f : Addr} {fd : FuncData} (F : Fun K "_law_many" "_law_many" s_w_many f fd) :
    FnG P w K mg base CX0 3 f fd ["_law_left_here"] (sp_w_many) := by
  refine okG F sc_w_many (fun vs H Q E h => ?_) (fun cdv A outer s H vs Q E hr h => ?_)
  · obtain ⟨a, rest, n, B, x, rfl, _, _, _, _, rfl, _⟩ := h; rfl
  · have nd := sc_w_many.nd
    obtain ⟨a, rest, n, B0, x, rfl, hsub, hna, hleft, hn, rfl, q⟩ := h
    refine ⟨_, (pss_cons (ps_set (i := 1) nd rfl (.inl rfl) (pe_callH c_w_pick (hr.mono (by decide)) (by rfl) (pa_cons (pv 0) (pa_cons pe_int pa_nil))))
        (pss_one (ps_ret (pe_ix (oIx (K := K) hr.units) (pe_lst (pa_cons pe_int (pa_cons pe_int (pa_cons pe_int (pa_cons pe_int (pa_cons pe_int (pa_cons pe_int (pa_cons (pe_callH c_w_pick (hr.mono (by decide)) (by rfl) (pa_cons (pv 0) (pa_cons pe_int pa_nil))) (pa_cons (pe_op (oAdd (K := K)) pe_int (pe_callH c_w_pick (hr.mono (by decide)) (by rfl) (pa_cons (pv 0) (pa_cons pe_int pa_nil)))) pa_nil))))))))) (pv 1) (fun _ _ => rfl))))), ?_⟩
    have S0 : G.St a B0 H n B0 H := G.St.new hsub hleft hna
    walk_at "go"
    rename_i d1 Ha ha0 ha1 Sa Oa d2 Hb hb0 hb1 Sb Ob d3 Hc hc0 hc1 Sc Oc p4 B4 H4 S4 O4 K4 n4 e4
    refine ix_lstP (S4.sub _ _ e4) ha0 (by simpa using ha1) fun v hv => ?_
    obtain ⟨m, rfl, hm0, hm1⟩ : ∃ m : Int, v = .int m ∧ 0 ≤ m ∧ m ≤ 12 := by
      simp only [List.mem_cons, List.not_mem_nil, or_false] at hv
      rcases hv with rfl | rfl | rfl | rfl | rfl | rfl | rfl | rfl
      all_goals exact ⟨_, rfl, by omega, by omega⟩
    exact q _ _ _ (S4.le (by omega)) ⟨m, rfl, hm0, hm1⟩
abbrev s_w_sizes : Stmt := topS 7
abbrev N_w_sizes : List Str := ["_law_left_here", "_law_most", "_law_many_here", "_law_way", "_law_found", "_law_k", "_law_some"]
theorem sc_w_sizes : FnScope N_w_sizes ["_law_left_here", "_law_most"] (defScope s_w_sizes) := ⟨rfl, rfl, rfl, by decide +kernel, rfl, by decide +kernel, by decide +kernel⟩
def SzOk (ns : List Int) : Prop := ∀ n ∈ ns, 0 ≤ n ∧ n ≤ 1000000000
def sp_w_sizes : Sp := spG 90 (fun _ rest (m : Nat) => rest = [.int m] ∧ 1 ≤ m ∧ m ≤ 12) fun B m v => ∃ p ns, v = .ref p ∧ B p = some (.lst (ns.map V.int)) ∧ 1 ≤ ns.length ∧ ns.length ≤ m ∧ SzOk ns
theorem ok_w_sizes {P : Program} {w : World} {K : PySem.W.Frag} {mg : Str → Option Value} {base : Heap} (B : Blt mg)  (c_w_pick : Has P w K mg base 2 "_law_pick" ["_law_left_here", "_law_many_here"] (sp_w_pick)) (c_w_many : Has P w K mg base 3 "_law_many" ["_law_left_here"] (sp_w_many))  {f : Addr} {fd : FuncData} (F : Fun K "_law_sizes" "_law_sizes" s_w_sizes f fd) :
    FnG P w K mg base CX0 4 f fd ["_law_left_here", "_law_most"] (sp_w_sizes) := by
  refine okG F sc_w_sizes (fun vs H Q E h => ?_) (fun cdv A outer s H vs Q E hr h => ?_)
  · obtain ⟨a, rest, n, B, x, rfl, _, _, _, _, ⟨rfl, _⟩, _⟩ := h; rfl
  · have nd := sc_w_sizes.nd
    obtain ⟨a, rest, n, B0, m, rfl, hsub, hna, hleft, hn, ⟨rfl, hm1, hm2⟩, q⟩ := h
    refine ⟨_, (pss_cons (ps_set (i := 2) nd rfl (.inl rfl) (pe_callB (oMax (K := K) rfl hr.units) (by rfl) B.max_ (by decide +kernel) (pa_cons pe_int (pa_cons (pe_callB (oMin (K := K) rfl hr.units) (by rfl) B.min_ (by decide +kernel) (pa_cons (pv 1) (pa_cons (pe_callH c_w_many (hr.mono (by decide)) (by rfl) (pa_cons (pv 0) pa_nil)) pa_nil))) pa_nil))))
        (pss_cons (ps_set (i := 3) nd rfl (.inl rfl) (pe_callH c_w_pick (hr.mono (by decide)) (by rfl) (pa_cons (pv 0) (pa_cons pe_int pa_nil))))
        (pss_cons (ps_set (i := 4) nd rfl (.inl rfl) (pe_lst pa_nil))
        (pss_cons (ps_for PassesOwn.never rfl (pi_range1 (by rfl) B.range_ (pa_cons (pv 2) pa_nil)) (pg_name (i := 5) nd rfl (.inl rfl))
        (pss_cons (ps_set (i := 6) nd rfl (.inl rfl) (pe_lst (pa_cons (pe_callH c_w_pick (hr.mono (by decide)) (by rfl) (pa_cons (pv 0) (pa_cons pe_int pa_nil))) (pa_cons (pe_op oMul (pe_callH c_w_pick (hr.mono (by decide)) (by rfl) (pa_cons (pv 0) (pa_cons pe_int pa_nil))) (pe_callH c_w_pick (hr.mono (by decide)) (by rfl) (pa_cons (pv 0) (pa_cons pe_int pa_nil)))) (pa_cons pe_int (pa_cons (pe_op (oAdd (K := K)) pe_int (pe_op oMul (pv 5) (pv 5))) pa_nil))))))
        (pss_one (ps_expr (pe_bmK (K := K) PySem.F.plainAttrs_list PySem.F.slot_list_append PySem.F.type_list_append mt_append (pv 4) (pa_cons (pe_ix (oIx (K := K) hr.units) (pe_op (oAdd (K := K)) (pv 6) (pe_lst (pa_cons (pe_op oSub (G.pe_p9 pe_int pe_int) (pe_callH c_w_pick (hr.mono (by decide)) (by rfl) (pa_cons (pv 0) (pa_cons pe_int pa_nil)))) (pa_cons (pe_callH c_w_pick (hr.mono (by decide)) (by rfl) (pa_cons (pv 0) (pa_cons (pe_op (oAdd (K := K)) (G.pe_p9 pe_int pe_int) pe_int) pa_nil))) pa_nil)))) (pv 3) (fun _ _ => rfl)) pa_nil))))))
        (pss_one (ps_ret (pv 4))))))), ?_⟩
    have S0 : G.St a B0 H n B0 H := G.St.new hsub hleft hna
    walk_at "gov"
    refine S0.gn (by omega) () rfl fun v B1 H1 S1 O1 K1 ⟨c, ev, c0, c1⟩ => ?_
    subst ev
    obtain ⟨mm, hmm, hmm1, hmm2⟩ : ∃ mm : Nat, (if (if c < (m : Int) then c else (m : Int)) > 1 then (if c < (m : Int) then c else (m : Int)) else 1) = (mm : Int) ∧ 1 ≤ mm ∧ mm ≤ m := by
      refine ⟨(if (if c < (m : Int) then c else (m : Int)) > 1 then (if c < (m : Int) then c else (m : Int)) else 1).toNat, ?_, ?_, ?_⟩ <;> split <;> split <;> omega
    clear S0
    walk_at "gov"
    rw [hmm]
    walk_at "gov"
    rename_i dw H2 dw0 dw1 S2 O2
    refine S2.atVol fun p H3 S3 O3 n3 e3 b3 f3 pa => ?_
    walk_at "gov"
    refine ⟨_, rfl, by omega, by omega, ?_⟩
    rw [Int.toNat_natCast]
    refine for_wk (wk_rng 0 _) (fun i σ H' => (∃ v5 v6, σ = [some (.ref a), some (.int m), some (.int mm), some (.int dw), some (.ref p), v5, v6]) ∧ ∃ B' ns, G.St a B0 H (n - 4 - 5 * i) B' H' ∧ H' p = some (.lst (ns.map V.int)) ∧ B' p = none ∧ ns.length = i ∧ SzOk ns)
      ⟨⟨_, _, rfl⟩, B1, [], S3.le (by omega), e3, b3, rfl, fun _ h => nomatch h⟩ (fun _ _ _ _ _ => trivial) ?_ ?_
    · rintro i z σ' Hz H6 hi ⟨⟨v5, v6, rfl⟩, B6, ns, S6, e6, b6, hl, hs⟩ ⟨rfl, rfl⟩
      clear S1 S2 S3
      walk_at "go"
      rename_i d1 Ha a0 a1 Sa Oa d2 Hb b0 b1 Sb Ob d3 Hc c0' c1' Sc Oc p4 B4 H4 S4 O4 K4 n4 e4 d5 Hd d50 d51 Sd Od d6 He d60 d61 Se Oe p7 B7 H7 S7 O7 K7 n7 e7
      have e6a := Oc.st _ _ pa (Ob.st _ _ pa (Oa.st _ _ pa e6))
      have e6b := O4.st _ _ pa e6a
      have b4 : B4 p = none := by rw [O4.fr p (by rw [e6a]; exact fun z => nomatch z)]; exact b6
      have e6c := Oe.st _ _ pa (Od.st _ _ pa e6b)
      have e6d := O7.st _ _ pa e6c
      have b7 : B7 p = none := by rw [O7.fr p (by rw [e6c]; exact fun z => nomatch z)]; exact b4
      refine a_lst (S7.sub _ _ (K7 _ _ e4)) (S7.sub _ _ e7) (szl' (Nat.le_of_ble_eq_true rfl)) ?_
      refine S7.atNew fun p8 B8 H8 S8 O8 K8 n8 e8 => ?_
      obtain ⟨e9, b9⟩ := O8.cell pa e6d b7
      clear Sa Sb Sc S4 Sd Se
      walk_at "gov"
      refine ix_lstP (S8.sub _ _ e8) dw0 (by simpa using dw1) fun v hv => ?_
      have hkk : (i : Int) * (i : Int) ≤ 144 := by
        have : i * i ≤ 12 * 12 := Nat.mul_le_mul (by omega) (by omega)
        rw [← Int.natCast_mul]; omega
      have hkk0 : 0 ≤ (i : Int) * (i : Int) := by rw [← Int.natCast_mul]; omega
      have h23 : 0 ≤ d2 * d3 ∧ d2 * d3 ≤ 100 := by
        rcases (show d2 = 0 ∨ d2 = 1 by omega) with h | h
        · rw [h, Int.zero_mul]; omega
        · rw [h, Int.one_mul]; omega
      obtain ⟨y, rfl, hy0, hy1⟩ : ∃ y : Int, v = .int y ∧ 0 ≤ y ∧ y ≤ 1000000000 := by
        simp only [Int.zero_add, List.cons_append, List.nil_append, List.mem_cons, List.not_mem_nil, or_false] at hv
        rcases hv with rfl | rfl | rfl | rfl | rfl | rfl
        all_goals exact ⟨_, rfl, by omega, by omega⟩
      walk_at "gov"
      refine app_lst e9 (szl'' (by rw [List.length_map]; omega)) ?_
      refine ⟨⟨_, _, rfl⟩, B8, ns ++ [y], (S8.put f3 b9 pa).le (by omega), by rw [upd_same, List.map_append]; rfl, b9, by rw [List.length_append, hl]; rfl, fun x hx => ?_⟩
      rcases List.mem_append.mp hx with hx | hx
      · exact hs x hx
      · rw [List.mem_singleton.mp hx]; exact ⟨hy0, hy1⟩
    · rintro σ' H6 ⟨⟨v5, v6, rfl⟩, B6, ns, S6, e6, b6, hl, hs⟩
      walk_at "go"
      exact q _ _ _ ((S6.know e6 f3 b6 pa).le (by omega)) ⟨p, ns, rfl, upd_same, by omega, by omega, hs⟩
abbrev s_w_ways : Stmt := topS 8
abbrev N_w_ways : List Str := ["_law_left_here"]
theorem sc_w_ways : FnScope N_w_ways ["_law_left_here"] (defScope s_w_ways) := ⟨rfl, rfl, rfl, by decide +kernel, rfl, by decide +kernel, by decide +kernel⟩
def sp_w_ways : Sp := spG 1 (fun _ rest (_ : Unit) => rest = []) fun _ _ v => ∃ w : Nat, v = .int w ∧ 2 ≤ w ∧ w ≤ 6
theorem ok_w_ways {P : Program} {w : World} {K : PySem.W.Frag} {mg : Str → Option Value} {base : Heap} (B : Blt mg)  (c_w_pick : Has P w K mg base 2 "_law_pick" ["_law_left_here", "_law_many_here"] (sp_w_pick))  {f : Addr} {fd : FuncData} (F : Fun K "_law_ways" "_law_ways" s_w_ways f fd) :
    FnG P w K mg base CX0 3 f fd ["_law_left_here"] (sp_w_ways) := by
  refine okG F sc_w_ways (fun vs H Q E h => ?_) (fun cdv A outer s H vs Q E hr h => ?_)
  · obtain ⟨a, rest, n, B, x, rfl, _, _, _, _, rfl, _⟩ := h; rfl
  · have nd := sc_w_ways.nd
    obtain ⟨a, rest, n, B0, x, rfl, hsub, hna, hleft, hn, rfl, q⟩ := h
    refine ⟨_, (pss_one (ps_ret (pe_ix (oIx (K := K) hr.units) (pe_lst (pa_cons pe_int (pa_cons pe_int (pa_cons pe_int (pa_cons pe_int (pa_cons pe_int (pa_cons pe_int pa_nil))))))) (pe_callH c_w_pick (hr.mono (by decide)) (by rfl) (pa_cons (pv 0) (pa_cons pe_int pa_nil))) (fun _ _ => rfl)))), ?_⟩
    have S0 : G.St a B0 H n B0 H := G.St.new hsub hleft hna
    walk_at "go"
    rename_i p1 B1 H1 S1 O1 K1 n1 e1 d2 H2 d20 d21 S2 O2
    refine ix_lstP (S2.sub _ _ e1) d20 (by simpa using d21) fun v hv => ?_
    obtain ⟨w, rfl, h1, h2⟩ : ∃ w : Nat, v = .int w ∧ 2 ≤ w ∧ w ≤ 6 := by
      simp only [List.mem_cons, List.not_mem_nil, or_false] at hv
      rcases hv with rfl | rfl | rfl | rfl | rfl | rfl
      · exact ⟨2, rfl, by omega, by omega⟩
      · exact ⟨3, rfl, by omega, by omega⟩
      · exact ⟨2, rfl, by omega, by omega⟩
      · exact ⟨4, rfl, by omega, by omega⟩
      · exact ⟨5, rfl, by omega, by omega⟩
      · exact ⟨6, rfl, by omega, by omega⟩
    exact q _ _ _ (S2.le (by omega)) ⟨w, rfl, h1, h2⟩
abbrev s_w_rows_in : Stmt := topS 9
abbrev N_w_rows_in : List Str := ["_law_tree", "_law_found", "_law_waiting", "_law_one"]
theorem sc_w_rows_in : FnScope N_w_rows_in ["_law_tree"] (defScope s_w_rows_in) := ⟨rfl, rfl, rfl, by decide +kernel, rfl, by decide +kernel, by decide +kernel⟩
def sp_w_rows_in : Sp := spF (fun B vs (t : PT) => ∃ v w, vs = [v] ∧ Dt B v (encPT t) ∧ t.okW w ∧ w ≤ 1000 ∧ t.nodes ≤ 1000 ∧ Fits 39 (encPT t)) fun B t v => ∃ p, v = .ref p ∧ B p = some (.lst (t.leaves.map V.int))
theorem dropLast_snoc {α : Type} {l : List α} {x : α} : (l ++ [x]).dropLast = l := List.dropLast_concat
theorem snoc_last {α : Type} {l : List α} (h : l ≠ []) : ∃ a x, l = a ++ [x] := ⟨l.dropLast, l.getLast h, (List.dropLast_concat_getLast h).symm⟩
theorem dts_snoc {B : Hp} {vs : List V} {l : List PT} {t : PT} (h : Dts B vs ((l ++ [t]).map encPT)) : ∃ ws v, vs = ws ++ [v] ∧ Dts B ws (l.map encPT) ∧ Dt B v (encPT t) := by
  have hl := h.len
  rw [List.length_map, List.length_append, List.length_singleton] at hl
  obtain ⟨ws, v, rfl⟩ := snoc_last (l := vs) (by intro z; rw [z] at hl; exact absurd hl (by simp))
  rw [List.length_append, List.length_singleton] at hl
  have h1 := h.take l.length
  have h2 := h.at (i := ws.length) (v := v) (by rw [List.getElem?_append_right (Nat.le_refl _)]; simp)
  rw [List.map_append, List.take_append_of_le_length (by omega), List.take_of_length_le (by omega), List.take_append_of_le_length (by rw [List.length_map]; exact Nat.le_refl _), List.take_of_length_le (by rw [List.length_map]; exact Nat.le_refl _)] at h1
  obtain ⟨d, h3, h4⟩ := h2
  refine ⟨ws, v, rfl, h1, ?_⟩
  rw [List.map_append, List.getElem?_append_right (by rw [List.length_map]; omega), List.length_map, show ws.length - l.length = 0 by omega] at h3
  cases h3
  exact h4
theorem ok_w_rows_in {P : Program} {w : World} {K : PySem.W.Frag} {mg : Str → Option Value} {base : Heap} (B : Blt mg)   {f : Addr} {fd : FuncData} (F : Fun K "_law_rows_in" "_law_rows_in" s_w_rows_in f fd) :
    FnG P w K mg base CX0 1 f fd ["_law_tree"] (sp_w_rows_in) := by
  refine okG F sc_w_rows_in (fun vs H Q E h => ?_) (fun cdv A outer s H vs Q E hr h => ?_)
  · obtain ⟨B, t, _, ⟨v, w, rfl, _⟩, _⟩ := h; rfl
  · have nd := sc_w_rows_in.nd
    obtain ⟨B0, t, hsub, ⟨v, w, rfl, hD, ho, hw, hn, hf⟩, q⟩ := h
    refine ⟨_, (pss_cons (ps_set (i := 1) nd rfl (.inl rfl) (pe_lst pa_nil))
        (pss_cons (ps_set (i := 2) nd rfl (.inl rfl) (pe_lst (pa_cons (pv 0) pa_nil)))
        (pss_cons (ps_while PassesOwn.never (pt_cmpR (oNe (K := K) hr.units) (pv 2) (pe_lst pa_nil) (nomark _))
        (pss_cons (ps_set (i := 3) nd rfl (.inl rfl) (pe_bm0K (K := K) PySem.F.plainAttrs_list PySem.F.slot_list_pop PySem.F.type_list_pop mt_pop (pv 2)))
        (pss_one (ps_if (pt_val (pe_callB (oIsi (K := K)) (by rfl) B.isinstance_ (by decide +kernel) (pa_cons (pv 3) (pa_cons (pe_bltn (v := .ty "tuple") (by rfl) B.tuple_ (by decide +kernel) rfl) pa_nil))))
        (pss_one (ps_expr (pe_bmK (K := K) PySem.F.plainAttrs_list PySem.F.slot_list_extend PySem.F.type_list_extend G.mt_extendT (pv 2) (pa_cons (G.pe_revTK (K := K) (pv 3)) pa_nil))))
        (pss_one (ps_expr (pe_bmK (K := K) PySem.F.plainAttrs_list PySem.F.slot_list_append PySem.F.type_list_append mt_append (pv 1) (pa_cons (pv 3) pa_nil))))))))
        (pss_one (ps_ret (pv 1)))))), ?_⟩
    have S0 : Pu B0 H B0 H := Pu.new hsub
    walk_at "gov"
    refine S0.atVol fun pf H1 S1 O1 n1 e1 b1 f1 => ?_
    have hD0 := hD
    walk_at "gov"
    refine S1.atVol fun pw H2 S2 O2 n2 e2 b2 f2 => ?_
    obtain ⟨e1', _⟩ := O2.cell e1 b1
    have nfw : pf ≠ pw := ne_of_none e1 n2
    walk_at "gov"
    refine g_while (fun m σ H' => ∃ v3, σ = [some v, some (.ref pf), some (.ref pw), v3] ∧ ∃ (B' : Hp) (ws : List V) (us : List PT) (ns : List Int), Pu B0 H B' H' ∧ Same B0 B' ∧ H' pf = some (.lst (ns.map V.int)) ∧ H' pw = some (.lst ws) ∧ B' pf = none ∧ B' pw = none ∧ Dts B' ws (us.map encPT) ∧ (∀ u ∈ us, u.okW w ∧ Fits 39 (encPT u)) ∧ ns ++ PT.leavesL us.reverse = t.leaves ∧ ns.length + PT.nodesL us ≤ 1000 ∧ m = PT.nodesL us) t.nodes
      ⟨_, rfl, B0, [v], [t], [], S2, Same.refl _, e1', e2, b1, b2, .cons hD .nil, fun u hu => by rw [List.mem_singleton.mp hu]; exact ⟨ho, hf⟩, by simp [leavesL_cons, leavesL_nil], by rw [nodesL_cons, nodesL_nil]; simpa using hn, by rw [nodesL_cons, nodesL_nil]; rfl⟩ ?_
    rintro m σ' H5 ⟨v3, rfl, B5, ws, us, ns, S5, K5, ef, ew, bf, bw, D5, o5, hlv, hnn, rfl⟩
    clear S0 S1 S2
    walk_at "gov"
    refine S5.atNew fun p6 B6 H6 S6 O6 K6 n6 e6 => ?_
    obtain ⟨ef, bf⟩ := O6.cell ef bf
    obtain ⟨ew, bw⟩ := O6.cell ew bw
    have D6 := D5.mono K6
    have hwl : ws.length = us.length := by rw [D6.len, List.length_map]
    have hnl := nodesL_len us
    refine ne_volnil S6.sub bw ew D6 (.lst e6 .nil) (fits_list (n := 59) (by rw [List.length_map]; omega) fun d hd => by
      obtain ⟨u, hu, rfl⟩ := List.mem_map.mp hd
      exact (o5 u hu).2.le (by decide)) ?_
    by_cases c : us = []
    · subst c
      walk_at "gov"
      refine q _ _ _ (S6.know ef f1 bf) ⟨pf, rfl, ?_⟩
      rw [upd_same, ← hlv]
      simp [leavesL_nil]
    · rw [decide_eq_false (show ¬ us.map encPT = [] by simpa using c)]
      obtain ⟨us, u, rfl⟩ := snoc_last c
      obtain ⟨ws, x, rfl, D7, hx⟩ := dts_snoc D6
      obtain ⟨ou, fu⟩ := o5 u (List.mem_append_right _ List.mem_cons_self)
      rw [List.reverse_append, List.reverse_singleton, List.singleton_append, leavesL_cons] at hlv
      rw [nodesL_app, nodesL_cons, nodesL_nil, Nat.add_zero] at hnn
      have nwf : pw ≠ pf := nfw.symm
      walk_at "gov"
      refine pop_lst ew ?_
      have S7 := S6.put (o := .lst ws) f2 bw
      have ef7 := (upd_ne (o := .lst ws) nfw).trans ef
      have ew7 : upd H6 pw (.lst ws) pw = some (.lst ws) := upd_same
      generalize upd H6 pw (.lst ws) = H7 at *
      have hwl7 : ws.length = us.length := by rw [D7.len, List.length_map]
      have hun := nodesL_len us
      have hup := nodes_pos u
      cases u with
      | lf n =>
        obtain rfl := hx.lf
        rw [leaves_lf] at hlv
        rw [nodes_lf] at hnn
        walk_at "gov"
        refine app_lst ef7 (szl'' (by rw [List.length_map]; omega)) ?_
        refine ⟨PT.nodesL us, by rw [nodesL_app, nodesL_cons, nodesL_nil, nodes_lf]; omega, _, rfl, B6, ws, us, ns ++ [n], S7.put f1 bf, fun q o e => K6 _ _ (K5 _ _ e), ?_, (upd_ne nwf).trans ew7, bf, bw, D7, fun y hy => o5 y (List.mem_append_left _ hy), ?_, by rw [List.length_append, List.length_singleton]; omega, rfl⟩
        · rw [upd_same, List.map_append]; rfl
        · rw [List.append_assoc]; exact hlv
      | nd l =>
        obtain ⟨pt, xs, rfl, hpt, hxs⟩ := hx.nd
        rw [leaves_nd] at hlv
        rw [nodes_nd] at hnn
        obtain ⟨_, _, h3⟩ := okW_nd.mp ou
        rw [encPT_nd] at fu
        obtain ⟨m, hm, hfl, hfm⟩ := fu.tu
        have hpt7 := S7.sub _ _ hpt
        have hxl : xs.length = l.length := by rw [hxs.len, List.length_map]
        have hll := nodesL_len l
        walk_at "gov"
        refine g_revT ?_
        walk_at "gov"
        refine rev_tup hpt7 ?_
        refine S7.atNew fun p8 B8 H8 S8 O8 K8 n8 e8 => ?_
        obtain ⟨ef8, bf8⟩ := O8.cell ef7 bf
        obtain ⟨ew8, bw8⟩ := O8.cell ew7 bw
        walk_at "gov"
        refine extT ew8 (S8.sub _ _ e8) (by rw [List.length_reverse]; omega) ?_
        refine ⟨PT.nodesL (us ++ l.reverse), by rw [nodesL_app, nodesL_app, nodesL_cons, nodesL_nil, nodes_nd, nodesL_perm (List.reverse_perm l)]; omega, _, rfl, B8, ws ++ xs.reverse, us ++ l.reverse, ns, S8.put f2 bw8, fun q o e => K8 _ _ (K6 _ _ (K5 _ _ e)), (upd_ne nfw).trans ef8, upd_same, bf8, bw8, ?_, fun y hy => ?_, ?_, by rw [nodesL_app, nodesL_perm (List.reverse_perm l)]; omega, rfl⟩
        · rw [List.map_append, List.map_reverse]
          exact (D7.mono K8).app (hxs.mono K8).rev
        · rcases List.mem_append.mp hy with hy | hy
          · exact o5 y (List.mem_append_left _ hy)
          · have hy := List.mem_reverse.mp hy
            exact ⟨h3 y hy, (hfm _ (List.mem_map.mpr ⟨y, hy, rfl⟩)).le (by omega)⟩
        · rw [List.reverse_append, List.reverse_reverse, leavesL_app]; exact hlv
abbrev s_w_cost : Stmt := topS 10
abbrev N_w_cost : List Str := ["_law_sizes_here", "_law_tree", "_law_total", "_law_waiting", "_law_one", "_law_n"]
theorem sc_w_cost : FnScope N_w_cost ["_law_sizes_here", "_law_tree"] (defScope s_w_cost) := ⟨rfl, rfl, rfl, by decide +kernel, rfl, by decide +kernel, by decide +kernel⟩
def sp_w_cost : Sp := spF (fun B vs (x : List Int × PT) => ∃ p v w, vs = [.ref p, v] ∧ B p = some (.lst (x.1.map V.int)) ∧ Dt B v (encPT x.2) ∧ x.2.okW w ∧ w ≤ 1000 ∧ x.2.nodes ≤ 1000 ∧ (∀ n ∈ x.2.leaves, 0 ≤ n ∧ n < x.1.length) ∧ Fits 39 (encPT x.2)) fun _ x v => v = .int (x.2.cost (szN x.1))
theorem leaves_nodes : ∀ t : PT, t.leaves.length ≤ t.nodes := PT.ind (fun n => by rw [leaves_lf, nodes_lf]; exact Nat.le_refl _) fun l ih => by
  rw [leaves_nd, nodes_nd]
  have : ∀ k : List PT, (∀ t ∈ k, t ∈ l) → (PT.leavesL k).length ≤ PT.nodesL k := by
    intro k
    induction k with
    | nil => intro _; rw [leavesL_nil]; exact Nat.zero_le _
    | cons t k ihk =>
      intro hk
      have a := ih t (hk t List.mem_cons_self)
      have b := ihk fun x hx => hk x (List.mem_cons_of_mem _ hx)
      rw [leavesL_cons, nodesL_cons, List.length_append]; omega
  have := this l fun _ h => h
  omega
theorem costL_perm {g : Int → Int} {a b : List PT} (h : a.Perm b) : PT.costL g a = PT.costL g b := by
  induction h with
  | nil => rfl
  | cons x _ ih => rw [costL_cons, costL_cons, ih]
  | swap x y l => rw [costL_cons, costL_cons, costL_cons, costL_cons]; omega
  | trans _ _ h1 h2 => exact h1.trans h2
theorem ok_w_cost {P : Program} {w : World} {K : PySem.W.Frag} {mg : Str → Option Value} {base : Heap} (B : Blt mg)  (c_w_rows_in : Has P w K mg base 1 "_law_rows_in" ["_law_tree"] (sp_w_rows_in))  {f : Addr} {fd : FuncData} (F : Fun K "_law_cost" "_law_cost" s_w_cost f fd) :
    FnG P w K mg base CX0 2 f fd ["_law_sizes_here", "_law_tree"] (sp_w_cost) := by
  refine okG F sc_w_cost (fun vs H Q E h => ?_) (fun cdv A outer s H vs Q E hr h => ?_)
  · obtain ⟨B, t, _, ⟨p, v, w, rfl, _⟩, _⟩ := h; rfl
  · have nd := sc_w_cost.nd
    obtain ⟨B0, ⟨ns, t⟩, hsub, ⟨ps, v, w, rfl, hps, hD, ho, hw, hn, hin, hf⟩, q⟩ := h
    dsimp only at hps hD ho hn hin hf q
    refine ⟨_, (pss_cons (ps_set (i := 2) nd rfl (.inl rfl) pe_int)
        (pss_cons (ps_set (i := 3) nd rfl (.inl rfl) (pe_lst (pa_cons (pv 1) pa_nil)))
        (pss_cons (ps_while PassesOwn.never (pt_cmpR (oNe (K := K) hr.units) (pv 3) (pe_lst pa_nil) (nomark _))
        (pss_cons (ps_set (i := 4) nd rfl (.inl rfl) (pe_bm0K (K := K) PySem.F.plainAttrs_list PySem.F.slot_list_pop PySem.F.type_list_pop mt_pop (pv 3)))
        (pss_one (ps_if (pt_val (pe_callB (oIsi (K := K)) (by rfl) B.isinstance_ (by decide +kernel) (pa_cons (pv 4) (pa_cons (pe_bltn (v := .ty "tuple") (by rfl) B.tuple_ (by decide +kernel) rfl) pa_nil))))
        (pss_cons (ps_set (i := 2) nd rfl (.inl rfl) (pe_op (oAdd (K := K)) (pv 2) (pe_callB (oSum (K := K) rfl) (by rfl) B.sum_ (by decide +kernel) (pa_cons (pe_lc (own := [("_law_n", 5)]) (g := gName 5) (tt := tYes) (by rfl) nd (pi_listK (K := K) (pe_callH c_w_rows_in (hr.mono (by decide)) (by rfl) (pa_cons (pv 4) pa_nil))) (blkOk_by (N := N_w_cost) (own := [("_law_n", 5)]) (sc := defScope s_w_cost) (by decide +kernel)) (fun _ _ _ _ _ => (pg_name (i := 5) nd rfl (by first | exact Or.inl rfl | exact Or.inr rfl))) (fun _ _ _ _ _ => pts_nil) (fun _ _ _ _ _ => (pe_ix (oIx (K := K) hr.units) (pv 0) (pv 5) (fun _ _ => rfl)))) pa_nil))))
        (pss_one (ps_expr (pe_bmK (K := K) PySem.F.plainAttrs_list PySem.F.slot_list_extend PySem.F.type_list_extend G.mt_extendT (pv 3) (pa_cons (pv 4) pa_nil)))))
        pss_nil))))
        (pss_one (ps_ret (pv 2)))))), ?_⟩
    have S0 : Pu B0 H B0 H := Pu.new hsub
    walk_at "gov"
    refine S0.atVol fun pw H2 S2 O2 n2 e2 b2 f2 => ?_
    walk_at "gov"
    refine g_while (fun m σ H' => ∃ v4 v5 tot, σ = [some (.ref ps), some v, some (.int tot), some (.ref pw), v4, v5] ∧ ∃ (B' : Hp) (ws : List V) (us : List PT), Pu B0 H B' H' ∧ Same B0 B' ∧ H' pw = some (.lst ws) ∧ B' pw = none ∧ Dts B' ws (us.map encPT) ∧ (∀ u ∈ us, u.okW w ∧ Fits 39 (encPT u) ∧ ∀ n ∈ u.leaves, 0 ≤ n ∧ n < ns.length) ∧ tot + PT.costL (szN ns) us = t.cost (szN ns) ∧ PT.nodesL us ≤ 1000 ∧ m = PT.nodesL us) t.nodes
      ⟨_, _, 0, rfl, B0, [v], [t], S2, Same.refl _, e2, b2, .cons hD .nil, fun u hu => by rw [List.mem_singleton.mp hu]; exact ⟨ho, hf, hin⟩, by rw [costL_cons, costL_nil]; omega, by rw [nodesL_cons, nodesL_nil]; simpa using hn, by rw [nodesL_cons, nodesL_nil]; rfl⟩ ?_
    rintro m σ' H5 ⟨v4, v5, tot, rfl, B5, ws, us, S5, K5, ew, bw, D5, o5, hct, hnn, rfl⟩
    clear S0 S2
    walk_at "gov"
    refine S5.atNew fun p6 B6 H6 S6 O6 K6 n6 e6 => ?_
    obtain ⟨ew, bw⟩ := O6.cell ew bw
    have D6 := D5.mono K6
    have hwl : ws.length = us.length := by rw [D6.len, List.length_map]
    have hnl := nodesL_len us
    refine ne_volnil S6.sub bw ew D6 (.lst e6 .nil) (fits_list (n := 59) (by rw [List.length_map]; omega) fun d hd => by
      obtain ⟨u, hu, rfl⟩ := List.mem_map.mp hd
      exact (o5 u hu).2.1.le (by decide)) ?_
    by_cases c : us = []
    · subst c
      rw [costL_nil, Int.add_zero] at hct
      walk_at "gov"
      exact q _ _ _ S6 (by rw [hct])
    · rw [decide_eq_false (show ¬ us.map encPT = [] by simpa using c)]
      obtain ⟨us, u, rfl⟩ := snoc_last c
      obtain ⟨ws, x, rfl, D7, hx⟩ := dts_snoc D6
      obtain ⟨ou, fu, iu⟩ := o5 u (List.mem_append_right _ List.mem_cons_self)
      rw [costL_app, costL_cons, costL_nil, Int.add_zero] at hct
      rw [nodesL_app, nodesL_cons, nodesL_nil, Nat.add_zero] at hnn
      walk_at "gov"
      refine pop_lst ew ?_
      have S7 := S6.put (o := .lst ws) f2 bw
      have ew7 : upd H6 pw (.lst ws) pw = some (.lst ws) := upd_same
      generalize upd H6 pw (.lst ws) = H7 at *
      have hwl7 : ws.length = us.length := by rw [D7.len, List.length_map]
      have hun := nodesL_len us
      have hup := nodes_pos u
      cases u with
      | lf n =>
        obtain rfl := hx.lf
        rw [cost_lf] at hct
        rw [nodes_lf] at hnn
        walk_at "gov"
        exact ⟨PT.nodesL us, by rw [nodesL_app, nodesL_cons, nodesL_nil, nodes_lf]; omega, _, _, tot, rfl, B6, ws, us, S7, fun q o e => K6 _ _ (K5 _ _ e), ew7, bw, D7, fun y hy => o5 y (List.mem_append_left _ hy), by omega, by omega, rfl⟩
      | nd l =>
        have hx0 := hx
        obtain ⟨pt, xs, rfl, hpt, hxs⟩ := hx.nd
        rw [cost_nd] at hct
        have hnd0 := hnn
        rw [nodes_nd] at hnn
        obtain ⟨_, _, h3⟩ := okW_nd.mp ou
        have fu0 := fu
        rw [encPT_nd] at fu
        obtain ⟨m, hm, hfl, hfm⟩ := fu.tu
        have hpt7 := S7.sub _ _ hpt
        have hxl : xs.length = l.length := by rw [hxs.len, List.length_map]
        have hll := nodesL_len l
        have hlv0 := leaves_nodes (.nd l)
        rw [leaves_nd] at hlv0 iu
        walk_at "gov"
        refine S7.fn (PT.nd l) ⟨_, w, rfl, hx0, ou, hw, by omega, fu0⟩ fun u8 B8 H8 S8 O8 K8 ⟨pr, eu, hpr⟩ => ?_
        subst eu
        rw [leaves_nd] at hpr
        obtain ⟨ew8, bw8⟩ := O8.cell ew7 bw
        have hps8 := K8 _ _ (K6 _ _ (K5 _ _ hps))
        walk_at "gov"
        refine ⟨pr, rfl, ⟨_, .inl (.inl (S8.sub _ _ hpr))⟩, ?_⟩
        refine S8.lc (wk_list pr ((PT.leavesL l).map V.int)) (by rw [List.length_map]; omega) (fun H' s => .inl (.inl (s _ _ hpr))) (fun j _ acc => acc = (((PT.leavesL l).take j).map (szN ns)).map V.int) rfl (fun _ _ _ _ _ r => r)
          (fun j x acc B9 H9 H9' hj K9 hs9 hyj hI hl9 Qk Qn qk qn => ?_) (fun p10 B10 H10 acc S10 O10 K10 n10 e10 hI => ?_)
        · obtain ⟨rfl, hx⟩ := hyj
          obtain ⟨n, hn, rfl⟩ := map_at hx
          obtain ⟨i0, i1⟩ := iu n (List.mem_of_getElem? hn)
          have hps9 := hs9 _ _ (K9 _ _ hps8)
          walk_at "gov"
          refine ix_size hps9 i0 i1 ?_
          refine qk _ _ _ (Pu.new hs9) ?_
          rw [hI, List.take_succ, hn, List.map_append, List.map_append]; rfl
        rw [List.length_map, List.take_length] at hI
        subst hI
        obtain ⟨ew10, bw10⟩ := O10.cell ew8 bw8
        walk_at "gov"
        refine sum_ints (S10.sub _ _ e10) ?_
        walk_at "gov"
        refine extT ew10 (S10.sub _ _ (K10 _ _ (K8 _ _ hpt))) (by omega) ?_
        refine ⟨PT.nodesL (us ++ l), by rw [nodesL_app, nodesL_app, nodesL_cons, nodesL_nil, nodes_nd]; omega, _, _, _, rfl, B10, ws ++ xs, us ++ l, S10.put f2 bw10, fun q o e => K10 _ _ (K8 _ _ (K6 _ _ (K5 _ _ e))), upd_same, bw10, ?_, fun y hy => ?_, ?_, by rw [nodesL_app]; omega, rfl⟩
        · rw [List.map_append]
          exact ((D7.mono K8).mono K10).app ((hxs.mono K8).mono K10)
        · rcases List.mem_append.mp hy with hy | hy
          · exact o5 y (List.mem_append_left _ hy)
          · exact ⟨h3 y hy, (hfm _ (List.mem_map.mpr ⟨y, hy, rfl⟩)).le (by omega), fun n hn => iu n ((leavesL_mem hy).2 n hn)⟩
        · rw [costL_app]; omega
abbrev s_w_free : Stmt := topS 11
abbrev N_w_free : List Str := ["_law_sizes_here", "_law_ways_here", "_law_there", "_law_n", "_law_size", "_law_cost_here", "_law_fresh", "_law_many_here", "_law_some", "_law_turn", "_law_least", "_law_one", "_law_other"]
theorem sc_w_free : FnScope N_w_free ["_law_sizes_here", "_law_ways_here"] (defScope s_w_free) := ⟨rfl, rfl, rfl, by decide +kernel, rfl, by decide +kernel, by decide +kernel⟩
structure LfA where
  ps : Addr
  ns : List Int
  w : Nat
def sp_w_free : Sp := spF (fun B vs (x : LfA) => vs = [.ref x.ps, .int x.w] ∧ B x.ps = some (.lst (x.ns.map V.int)) ∧ 1 ≤ x.ns.length ∧ x.ns.length ≤ 25 ∧ 2 ≤ x.w ∧ x.w ≤ 50)
  fun B' x v => Dt B' v (.tuple [.int (freeF x.ns x.w).1, encPT (freeF x.ns x.w).2])
theorem ones_at' {ns : List Int} {k : Nat} {y : V} (h : (ns.map V.int)[k]? = some y) : ∃ z, y = .int z ∧ (ones ns)[k]? = some (z, (k : Int), .lf (k : Int)) := by
  rw [List.getElem?_map] at h
  obtain ⟨z, hz, rfl⟩ := Option.map_eq_some_iff.mp h
  refine ⟨z, rfl, ?_⟩
  unfold ones
  rw [List.getElem?_map, List.getElem?_zipIdx, hz]
  simp
theorem dt_fi' {B : Hp} {v : V} {x : FI} (h : Dt B v (encF x)) : ∃ p t, v = .ref p ∧ B p = some (.tup [.int x.1, .int x.2.1, t]) ∧ Dt B t (encPT x.2.2) := by
  obtain ⟨p, vs, ev, hp, hvs⟩ := h.tuple
  cases hvs with
  | cons a1 hvs =>
    cases hvs with
    | cons a2 hvs =>
      cases hvs with
      | cons a3 hvs =>
        cases hvs
        rw [a1.i, a2.i] at hp
        exact ⟨p, _, ev, hp, a3⟩
theorem fok_perm {g : Int → Int} {w n : Nat} {fr : Int} {a b : List FI} (F : FOk g w n fr a) (p : a.Perm b) : FOk g w n fr b :=
  ⟨F.nums.perm p, fun x hx => F.lt x (p.mem_iff.mpr hx), fun x hx => F.ok x (p.mem_iff.mpr hx), (leavesL_perm (p.map _)).symm.trans F.lv⟩
theorem if_cut {c : Bool} {t1 t2 : TE} {σ : L2.St} {H : Hp} {Q : VK} (v : V) (h1 : c = true → ∀ G : VK, G v H → t1 σ H G) (h2 : c = false → ∀ G : VK, G v H → t2 σ H G) (q : Q v H) : if c = true then t1 σ H Q else t2 σ H Q := by
  cases c with
  | true => exact h1 rfl Q q
  | false => exact h2 rfl Q q
theorem ok_w_free {P : Program} {w : World} {K : PySem.W.Frag} {mg : Str → Option Value} {base : Heap} (B : Blt mg)   {f : Addr} {fd : FuncData} (F : Fun K "_law_free" "_law_free" s_w_free f fd) :
    FnG P w K mg base CX0 1 f fd ["_law_sizes_here", "_law_ways_here"] (sp_w_free) := by
  refine okG F sc_w_free (fun vs H Q E h => ?_) (fun cdv A outer s H vs Q E hr h => ?_)
  · obtain ⟨B, x, _, ⟨rfl, _⟩, _⟩ := h; rfl
  · have nd := sc_w_free.nd
    obtain ⟨B0, ⟨ps, ns, w⟩, hsub, ⟨hvs, hps, hn1, hn2, hw2, hw3⟩, q⟩ := h
    dsimp only at hvs hps hn1 hn2 hw2 hw3 q
    subst hvs
    refine ⟨_, (pss_cons (ps_set (i := 2) nd rfl (.inr rfl) (pe_lc (own := [("_law_n", 3), ("_law_size", 4)]) (tt := tYes) (by rfl) nd (pi_enumK (K := K) (by rfl) B.enumerate_ (pa_cons (pv 0) pa_nil)) (blkOk_by (N := N_w_free) (own := [("_law_n", 3), ("_law_size", 4)]) (sc := defScope s_w_free) (by decide +kernel)) (fun _ _ _ _ _ => (pg_tupG (K := K) (n := 2) (by rfl) (pgs_cons (pg_name (i := 3) nd rfl (by first | exact Or.inl rfl | exact Or.inr rfl)) (pgs_cons (pg_name (i := 4) nd rfl (by first | exact Or.inl rfl | exact Or.inr rfl)) pgs_nil)))) (fun _ _ _ _ _ => pts_nil) (fun _ _ _ _ _ => (pe_tup (pa_cons (pv 4) (pa_cons (pv 3) (pa_cons (pv 3) pa_nil)))))))
        (pss_cons (ps_par (i := 5) (j := 6) (by rfl) nd rfl rfl (by decide) rfl rfl (pa_cons pe_int (pa_cons (pe_callB (oLen (K := K)) (by rfl) B.len_ (by decide +kernel) (pa_cons (pv 0) pa_nil)) pa_nil)) (by rfl))
        (pss_cons (ps_while PassesOwn.never (pt_cmpR (oGt hr.units) (pe_callB (oLen (K := K)) (by rfl) B.len_ (by decide +kernel) (pa_cons (pv 2) pa_nil)) pe_int (nomark _))
        (pss_cons (ps_set (i := 7) nd rfl (.inl rfl) (pe_ifExp (pt_cmpR (oGt hr.units) (pv 6) (pe_callB (oLen (K := K)) (by rfl) B.len_ (by decide +kernel) (pa_cons (pv 0) pa_nil)) (nomark _)) (pv 1) (pe_op (oAdd (K := K)) pe_int (pe_op oMod (pe_op oSub (pe_callB (oLen (K := K)) (by rfl) B.len_ (by decide +kernel) (pa_cons (pv 0) pa_nil)) pe_int) (pe_op oSub (pv 1) pe_int)))))
        (pss_cons (ps_set (i := 8) nd rfl (.inl rfl) (pe_lst pa_nil))
        (pss_cons (ps_for PassesOwn.never rfl (pi_range1 (by rfl) B.range_ (pa_cons (pv 7) pa_nil)) (pg_name (i := 9) nd rfl (.inl rfl))
        (pss_cons (ps_set (i := 10) nd rfl (.inl rfl) (pe_ix (oIx (K := K) hr.units) (pe_lc (own := [("_law_one", 11)]) (g := gName 11) (by rfl) nd (pi_listK (K := K) (pv 2)) (blkOk_by (N := N_w_free) (own := [("_law_one", 11)]) (sc := defScope s_w_free) (by decide +kernel)) (fun _ _ _ _ _ => (pg_name (i := 11) nd rfl (by first | exact Or.inl rfl | exact Or.inr rfl))) (fun _ _ _ _ _ => (pts_one (pt_cmpR (oEq (K := K) hr.units) (pe_slice (G.oSlA (K := K)) (pv 11) po_none (po_some pe_int)) (pe_callB (oMin (K := K) rfl hr.units) (by rfl) B.min_ (by decide +kernel) (pa_cons (pe_lc (own := [("_law_other", 12)]) (g := gName 12) (tt := tYes) (by rfl) nd (pi_listK (K := K) (pv 2)) (blkOk_by (N := N_w_free) (own := [("_law_other", 12)]) (sc := { kind := ScopeKind.function, names := [(Str.ofString ".0", NameKind.local), (Str.ofString "_law_one", NameKind.local), (Str.ofString "min", NameKind.globalImplicit), (Str.ofString "_law_there", NameKind.cell)], isGenerator := false, isCoroutine := false }) (by decide +kernel)) (fun _ _ _ _ _ => (pg_name (i := 12) nd rfl (by first | exact Or.inl rfl | exact Or.inr rfl))) (fun _ _ _ _ _ => pts_nil) (fun _ _ _ _ _ => (pe_slice (G.oSlA (K := K)) (pv 12) po_none (po_some pe_int)))) pa_nil)) (nomark _)))) (fun _ _ _ _ _ => (pv 11))) pe_int (fun _ _ => rfl)))
        (pss_cons (ps_expr (pe_bmK (K := K) PySem.F.plainAttrs_list PySem.F.slot_list_remove PySem.F.type_list_remove (G.oRemove (K := K) hr.units) (pv 2) (pa_cons (pv 10) pa_nil)))
        (pss_one (ps_expr (pe_bmK (K := K) PySem.F.plainAttrs_list PySem.F.slot_list_append PySem.F.type_list_append mt_append (pv 8) (pa_cons (pv 10) pa_nil)))))))
        (pss_cons (ps_set (i := 4) nd rfl (.inl rfl) (pe_callB (oSum (K := K) rfl) (by rfl) B.sum_ (by decide +kernel) (pa_cons (pe_lc (own := [("_law_one", 11)]) (g := gName 11) (tt := tYes) (by rfl) nd (pi_listK (K := K) (pv 8)) (blkOk_by (N := N_w_free) (own := [("_law_one", 11)]) (sc := defScope s_w_free) (by decide +kernel)) (fun _ _ _ _ _ => (pg_name (i := 11) nd rfl (by first | exact Or.inl rfl | exact Or.inr rfl))) (fun _ _ _ _ _ => pts_nil) (fun _ _ _ _ _ => (pe_ix (oIx (K := K) hr.units) (pv 11) pe_int (fun _ _ => rfl)))) pa_nil)))
        (pss_cons (ps_expr (pe_bmK (K := K) PySem.F.plainAttrs_list PySem.F.slot_list_append PySem.F.type_list_append mt_append (pv 2) (pa_cons (pe_tup (pa_cons (pv 4) (pa_cons (pv 6) (pa_cons (pe_callTy (oTuple (K := K)) (by rfl) B.tuple_ (by decide +kernel) (pa_cons (pe_lc (own := [("_law_one", 11)]) (g := gName 11) (tt := tYes) (by rfl) nd (pi_listK (K := K) (pv 8)) (blkOk_by (N := N_w_free) (own := [("_law_one", 11)]) (sc := defScope s_w_free) (by decide +kernel)) (fun _ _ _ _ _ => (pg_name (i := 11) nd rfl (by first | exact Or.inl rfl | exact Or.inr rfl))) (fun _ _ _ _ _ => pts_nil) (fun _ _ _ _ _ => (pe_ix (oIx (K := K) hr.units) (pv 11) pe_int (fun _ _ => rfl)))) pa_nil)) pa_nil)))) pa_nil)))
        (pss_one (ps_par (i := 5) (j := 6) (by rfl) nd rfl rfl (by decide) rfl rfl (pa_cons (pe_op (oAdd (K := K)) (pv 5) (pv 4)) (pa_cons (pe_op (oAdd (K := K)) (pv 6) pe_int) pa_nil)) (by rfl)))))))))
        (pss_one (ps_ret (pe_tup (pa_cons (pv 5) (pa_cons (pe_ix (oIx (K := K) hr.units) (pe_ix (oIx (K := K) hr.units) (pv 2) pe_int (fun _ _ => rfl)) pe_int (fun _ _ => rfl)) pa_nil)))))))), ?_⟩
    have S0 : Pu B0 H B0 H := Pu.new hsub
    have hml : (ns.map V.int).length = ns.length := List.length_map ..
    walk_at "gov"
    refine ⟨ps, ns.map V.int, rfl, .inl (.inl (S0.sub _ _ hps)), ?_⟩
    refine S0.lcv (wk_enum ps (ns.map V.int)) (by omega) (fun H' s _ => .inl (.inl (s _ _ hps))) (fun k B acc => Dts B acc (((ones ns).take k).map encF)) .nil
      (fun k x acc B1 H1 H1' hk K1 O1 S1 hy hI hl Qk Qn qk qn => ?_) (fun p B1 H1 acc S1 O1 K1 n1 e1 b1 f1 hI => ?_)
    · obtain ⟨T, y, rfl, nT, rfl, hy⟩ := hy
      obtain ⟨z, rfl, ho⟩ := ones_at' hy
      have S2 : Pu B1 H1 _ _ := (Pu.new S1).alloc (o := .tup [.int k, .int z]) nT
      have hT : (upd B1 T (.tup [.int k, .int z])) T = some (.tup [.int k, .int z]) := upd_same
      have hI2 := hI.mono (Same.updN (o := .tup [.int k, .int z]) (S1.free nT))
      generalize upd B1 T (.tup [.int k, .int z]) = B2 at *
      generalize upd H1 T (.tup [.int k, .int z]) = H2 at *
      walk_at "gov"
      rename_i pt B3 H3 S3 O3 K3 n3 e3
      refine qk _ _ _ S3 ?_
      rw [List.take_add_one, ho, List.map_append]
      exact (hI2.mono K3).app (.cons (.tup e3 (.cons (.int _) (.cons (.int _) (.cons (dt_lf _) .nil)))) .nil)
    rw [hml, List.take_of_length_le (by rw [ones_len']; exact Nat.le_refl _)] at hI
    have hm0 : (2 : Int) + ((ns.length : Int) - 2) % ((w : Int) - 1) = ((many0 ns.length w : Nat) : Int) := by
      unfold many0
      have := Int.emod_nonneg ((ns.length : Int) - 2) (show (w : Int) - 1 ≠ 0 by omega)
      omega
    walk_at "gov"
    rw [hml]
    refine g_while (fun mm σ H' => ∃ (v3 v4 v7 v8 v9 v10 v11 v12 : Option V) (B' : Hp) (xs : List V) (th : List FI) (fr : Int) (m f : Nat) (c : Int), σ = [some (.ref ps), some (.int w), some (.ref p), v3, v4, some (.int c), some (.int fr), v7, v8, v9, v10, v11, v12] ∧ Pu B0 H B' H' ∧ Same B0 B' ∧ H' p = some (.lst xs) ∧ B' p = none ∧
        Dts B' xs (th.map encF) ∧ freeR w f th fr m c = freeF ns w ∧ th.length ≤ f + 1 ∧ 1 ≤ th.length ∧ th.length ≤ 25 ∧ Fit w th.length m ∧ FOk (szN ns) w ns.length fr th ∧ ((fr = (ns.length : Int) ∧ m = many0 ns.length w) ∨ ((ns.length : Int) < fr ∧ m = w)) ∧ mm = th.length) ns.length
      ⟨_, _, _, _, _, _, _, _, B1, acc, ones ns, ns.length, many0 ns.length w, ns.length, 0, rfl, S1, K1, e1, b1, hI, rfl, by rw [ones_len']; omega, by rw [ones_len']; exact hn1, by rw [ones_len']; exact hn2, by rw [ones_len']; exact fit0 hw2 hn1, ones_ok, .inl ⟨rfl, rfl⟩, (ones_len' ns).symm⟩ ?_
    clear S0 S1 hI e1 K1 O1 b1
    rintro mm σ' H5 ⟨v3, v4, v7, v8, v9, v10, v11, v12, B5, xs, th, fr, m, f, c, rfl, S5, K5, ep, bp, D5, hr5, hf5, h1, h50, hfit, F5, hmany, rfl⟩
    have hxl : xs.length = th.length := by rw [D5.len, List.length_map]
    by_cases hc : th.length ≤ 1
    · have hfin : freeR w f th fr m c = (c, headF th) := by
        cases f with
        | zero => rfl
        | succ f => unfold freeR; rw [if_pos hc]
      obtain ⟨x, rfl⟩ : ∃ x, th = [x] := by
        match th, h1, hc with
        | [x], _, _ => exact ⟨x, rfl⟩
      obtain ⟨v, rfl, hv⟩ : ∃ v, xs = [v] ∧ Dt B5 v (encF x) := by
        cases D5 with
        | cons a b => cases b; exact ⟨_, rfl, a⟩
      obtain ⟨pt, t, rfl, ept, ht⟩ := dt_fi' hv
      have hx1 : ([V.ref pt] : List V).length = 1 := rfl
      walk_at "gov"
      rename_i pr B6 H6 S6 O6 K6 n6 e6
      rw [← hr5, hfin] at q
      exact q _ _ _ S6 (.tup e6 (.cons (.int _) (.cons (ht.mono K6) .nil)))
    · have hlt : 1 < xs.length := by omega
      have hm2 : 2 ≤ m ∧ m ≤ th.length ∧ m ≤ w := by
        rcases hfit with h | ⟨h1, h2, h3, _⟩
        · omega
        · exact ⟨h1, h3, h2⟩
      walk_at "gov"
      refine if_cut (v := V.int m) (fun h G g => ?_) (fun h G g => ?_) ?_
      · have h := of_decide_eq_true h
        rcases hmany with ⟨rfl, rfl⟩ | ⟨_, rfl⟩
        · omega
        · walk_at "gov"
          exact g
      · have h := of_decide_eq_false h
        rcases hmany with ⟨rfl, rfl⟩ | ⟨h2, rfl⟩
        · walk_at "gov"
          rw [hml, hm0]
          exact g
        · omega
      walk_at "gov"
      have hsl := srtF_len th
      refine S5.atVol fun pS H6 S6 O6 n6 e6 b6 f6 => ?_
      have hpS : p ≠ pS := ne_of_none ep n6
      have ep6 := (O6.cell ep bp).1
      clear S5
      walk_at "gov"
      refine ⟨_, rfl, by omega, by omega, ?_⟩
      rw [Int.toNat_natCast]
      refine for_wk (wk_rng 0 m) (fun j σ H' => ∃ (v9 v10 v11 v12 : Option V) (B' : Hp) (xs ys : List V) (tj : List FI), σ = [some (.ref ps), some (.int w), some (.ref p), v3, v4, some (.int c), some (.int fr), some (.int m), some (.ref pS), v9, v10, v11, v12] ∧ Pu B0 H B' H' ∧ Same B5 B' ∧ H' p = some (.lst xs) ∧ B' p = none ∧ H' pS = some (.lst ys) ∧ B' pS = none ∧
          Dts B' xs (tj.map encF) ∧ Dts B' ys (((srtF th).take j).map encF) ∧ tj.Perm ((srtF th).drop j))
        ⟨_, _, _, _, B5, xs, [], th, rfl, S6, Same.refl _, ep6, bp, e6, b6, D5, .nil, (srtF_perm th).symm⟩ (fun _ _ _ _ _ => trivial) ?_ ?_
      · rintro j w1 σ' Hz H7 hj ⟨v9, v10, v11, v12, B7, xs7, ys7, tj, rfl, S7, K7, ep7, bp7, es7, bs7, Dx7, Dy7, pj⟩ ⟨rfl, rfl⟩
        clear S6
        have hjl : j < (srtF th).length := by omega
        obtain ⟨x, hx⟩ : ∃ x, (srtF th)[j]? = some x := ⟨_, List.getElem?_eq_getElem hjl⟩
        have hd : (srtF th).drop j = x :: (srtF th).drop (j + 1) := by rw [List.drop_eq_getElem_cons hjl, (List.getElem?_eq_some_iff.mp hx).2]
        have hxm : x ∈ tj := pj.mem_iff.mpr (by rw [hd]; exact List.mem_cons_self)
        have hlj : tj.length = th.length - j := by rw [pj.length_eq, List.length_drop, hsl]
        have hxl7 : xs7.length = tj.length := by rw [Dx7.len, List.length_map]
        have u0 := F5.nums
        have uj : NumsU tj := by
          have h1 : NumsU (srtF th) := u0.perm (srtF_perm th).symm
          have h2 : NumsU ((srtF th).drop j) := by
            unfold NumsU at h1 ⊢
            exact h1.sublist ((List.drop_sublist j _).map _)
          exact h2.perm pj.symm
        have hxth : x ∈ th := (srtF_perm th).mem_iff.mp (List.mem_of_getElem? hx)
        have fx : Fits 31 (encPT x.2.2) := by
          have h1 := fits_pt (w := w) (by omega) _ (F5.ok x hxth).1
          have h2 := (leavesL_mem (List.mem_map.mpr ⟨x, hxth, rfl⟩ : x.2.2 ∈ th.map (·.2.2))).1
          have h3 := F5.lv.length_eq
          rw [rgI_len] at h3
          exact h1.le (by omega)
        walk_at "gov"
        refine ⟨p, rfl, ⟨_, .inl (.inl ep7)⟩, ?_⟩
        refine S7.lcv (wk_list p xs7) (by omega) (fun H' _ s => .inl (.inl (s _ _ ep7))) (fun i B acc => Dts B acc (((tj.take i).filter fun y => decide (keyF y = keyF x)).map encF)) .nil
          (fun i v acc B8 H8 H8' hi K8 O8 S8 hy hI hl Qk Qn qk qn => ?_) (fun pl B8 H8 acc S8 O8 K8 n8 e8 b8 f8 hI => ?_)
        · obtain ⟨rfl, hv⟩ := hy
          obtain ⟨d, hd1, hvd⟩ := (Dx7.mono K8).at hv
          rw [List.getElem?_map] at hd1
          obtain ⟨y, hy, rfl⟩ := Option.map_eq_some_iff.mp hd1
          have ep8 := O8.st _ _ ep7
          have S8' := Pu.new S8
          walk_at "gov"
          refine Pu.slA (ds := [.int y.1, .int y.2.1, encPT y.2.2]) S8' hvd fun v2 B9 H9 S9 O9 K9 hD9 => ?_
          have hD9 : Dt B9 v2 (encII (keyF y)) := by
            have e := cutD_take [PyData.int y.1, .int y.2.1, encPT y.2.2] 2
            have e2 : cutD [PyData.int y.1, .int y.2.1, encPT y.2.2] none (some 2) = [.int y.1, .int y.2.1] := e
            rw [e2] at hD9
            exact hD9
          have ep9 := O9.st _ _ ep8
          clear S8'
          walk_at "gov"
          refine ⟨p, rfl, ⟨_, .inl (.inl ep9)⟩, ?_⟩
          refine S9.lcv (wk_list p xs7) (by omega) (fun H' _ s => .inl (.inl (s _ _ ep9))) (fun i B acc => Dts B acc (((tj.take i).map keyF).map encII)) .nil
            (fun i2 v3 acc2 B10 H10 H10' hi2 K10 O10 S10 hy2 hI2 hl2 Qk2 Qn2 qk2 qn2 => ?_) (fun p2 B10 H10 acc2 S10 O10 K10 n10 e10 b10 f10 hI2 => ?_)
          · obtain ⟨rfl, hv3⟩ := hy2
            obtain ⟨d3, hd3, hvd3⟩ := (((Dx7.mono K8).mono K9).mono K10).at hv3
            rw [List.getElem?_map] at hd3
            obtain ⟨z, hz, rfl⟩ := Option.map_eq_some_iff.mp hd3
            walk_at "gov"
            refine Pu.slA (ds := [.int z.1, .int z.2.1, encPT z.2.2]) (Pu.new S10) hvd3 fun v4 B11 H11 S11 O11 K11 hD11 => ?_
            have hD11 : Dt B11 v4 (encII (keyF z)) := by
              have e := cutD_take [PyData.int z.1, .int z.2.1, encPT z.2.2] 2
              have e2 : cutD [PyData.int z.1, .int z.2.1, encPT z.2.2] none (some 2) = [.int z.1, .int z.2.1] := e
              rw [e2] at hD11
              exact hD11
            refine qk2 _ _ _ S11 ?_
            rw [List.take_add_one, hz, List.map_append, List.map_append]
            exact (hI2.mono K11).app (.cons hD11 .nil)
          rw [hxl7, List.take_length] at hI2
          walk_at "gov"
          refine min2_II S10.sub e10 hI2 (by rw [List.length_map]; exact List.length_pos_of_mem hxm) fun v5 m5 hm5 hl5 hD5 => ?_
          obtain rfl := least_F u0 pj hx hm5 hl5
          refine eq_data S10.sub (hD9.mono K10) hD5 (fits_II _) (fits_II _) ?_
          rw [eqv_II]
          by_cases ce : keyF y = keyF x
          · rw [decide_eq_true ce]
            walk_at "gov"
            refine qk _ _ _ S10 ?_
            rw [List.take_add_one, hy, List.filter_append, List.map_append]
            refine (hI.mono fun q o e => K10 _ _ (K9 _ _ e)).app ?_
            show Dts B10 [v] (List.map encF (List.filter _ [y]))
            rw [List.filter_cons_of_pos (by simpa using ce)]
            exact .cons (hvd.mono fun q o e => K10 _ _ (K9 _ _ e)) .nil
          · rw [decide_eq_false ce]
            walk_at "gov"
            refine qn _ _ S10 ?_
            rw [List.take_add_one, hy, List.filter_append, List.map_append]
            have e0 : List.filter (fun y => decide (keyF y = keyF x)) (some y).toList = [] := by
              show List.filter _ [y] = []
              rw [List.filter_cons_of_neg (by simpa using ce)]
              rfl
            rw [e0, List.map_nil, List.append_nil]
            exact hI.mono fun q o e => K10 _ _ (K9 _ _ e)
        rw [hxl7, List.take_length, filter_F uj hxm] at hI
        obtain ⟨v, rfl, hv⟩ : ∃ v, acc = [v] ∧ Dt B8 v (encF x) := by
          cases hI with
          | cons a b => cases b; exact ⟨_, rfl, a⟩
        obtain ⟨ep8, bp8⟩ := O8.cell ep7 bp7
        obtain ⟨es8, bs8⟩ := O8.cell es7 bs7
        have Dx8 := Dx7.mono K8
        have Dy8 := Dy7.mono K8
        clear S7
        refine ix_lst (i := 0) e8 rfl ?_
        walk_at "gov"
        refine rem_F S8.sub ep8 Dx8 uj hxm fx hv fun jj hjj => ?_
        have S9 := S8.put (o := .lst (xs7.eraseIdx jj)) f1 bp8
        have ep9 : upd H8 p (.lst (xs7.eraseIdx jj)) p = some (.lst (xs7.eraseIdx jj)) := upd_same
        have es9 : upd H8 p (.lst (xs7.eraseIdx jj)) pS = some (.lst ys7) := (upd_ne hpS.symm).trans es8
        generalize upd H8 p (.lst (xs7.eraseIdx jj)) = H9 at *
        clear S8
        have hyl : ys7.length ≤ 25 := by
          rw [Dy7.len, List.length_map, List.length_take]; omega
        walk_at "gov"
        refine app_lst es9 (szl' (by omega)) ?_
        have S10 := S9.put (o := .lst (ys7 ++ [v])) f6 bs8
        have ep10 := (upd_ne (o := .lst (ys7 ++ [v])) hpS).trans ep9
        have es10 : upd H9 pS (.lst (ys7 ++ [v])) pS = some (.lst (ys7 ++ [v])) := upd_same
        generalize upd H9 pS (.lst (ys7 ++ [v])) = H10 at *
        clear S9
        walk_at "gov"
        refine ⟨_, _, _, _, B8, xs7.eraseIdx jj, ys7 ++ [v], tj.eraseIdx jj, rfl, S10, fun q o e => K8 _ _ (K7 _ _ e), ep10, bp8, es10, bs8, ?_, ?_, ?_⟩
        · rw [← erase_map]
          exact eraseF_dts jj Dx8
        · rw [List.take_add_one, hx, List.map_append]
          exact Dy8.app (.cons hv .nil)
        · have h1 := (erase_perm hjj).trans pj
          rw [hd] at h1
          exact h1.cons_inv
      · rintro σ' H7 ⟨v9, v10, v11, v12, B7, xs7, ys7, tj, rfl, S7, K7, ep7, bp7, es7, bs7, Dx7, Dy7, pj⟩
        clear S6
        have hyl : ys7.length = ((srtF th).take m).length := by rw [Dy7.len, List.length_map]
        have hy25 : ys7.length ≤ 25 := by rw [hyl, List.length_take]; omega
        walk_at "gov"
        refine ⟨pS, rfl, ⟨_, .inl (.inl es7)⟩, ?_⟩
        refine S7.lcv (wk_list pS ys7) (by omega) (fun H' _ s => .inl (.inl (s _ _ es7))) (fun k B acc => acc = (((srtF th).take m).take k).map fun x => V.int x.1) rfl
          (fun k v acc B8 H8 H8' hk K8 O8 S8 hy hI hl Qk Qn qk qn => ?_) (fun p8 B8 H8 acc S8 O8 K8 n8 e8 b8 f8 hI => ?_)
        · obtain ⟨rfl, hv⟩ := hy
          obtain ⟨d, hd, hvd⟩ := (Dy7.mono K8).at hv
          rw [List.getElem?_map] at hd
          obtain ⟨x, hx, rfl⟩ := Option.map_eq_some_iff.mp hd
          obtain ⟨pt, t, rfl, ept, ht⟩ := dt_fi' hvd
          walk_at "gov"
          exact qk _ _ _ (Pu.new S8) (by rw [hI, List.take_add_one, hx, List.map_append]; rfl)
        have e8' : H8 p8 = some (.lst ((((srtF th).take m).map (·.1)).map V.int)) := by
          rw [e8, hI, hyl, List.take_length, List.map_map]; rfl
        obtain ⟨ep8, bp8⟩ := O8.cell ep7 bp7
        obtain ⟨es8, bs8⟩ := O8.cell es7 bs7
        have Dx8 := Dx7.mono K8
        have Dy8 := Dy7.mono K8
        clear S7
        refine sum_ints e8' ?_
        walk_at "gov"
        refine ⟨pS, rfl, ⟨_, .inl (.inl es8)⟩, ?_⟩
        refine S8.lcv (wk_list pS ys7) (by omega) (fun H' _ s => .inl (.inl (s _ _ es8))) (fun k B acc => Dts B acc ((((srtF th).take m).take k).map fun x : FI => encPT x.2.2)) .nil
          (fun k v acc B10 H10 H10' hk K10 O10 S10 hy hI hl Qk Qn qk qn => ?_) (fun p10 B10 H10 acc S10 O10 K10 n10 e10 b10 f10 hI => ?_)
        · obtain ⟨rfl, hv⟩ := hy
          obtain ⟨d, hd, hvd⟩ := (Dy8.mono K10).at hv
          rw [List.getElem?_map] at hd
          obtain ⟨x, hx, rfl⟩ := Option.map_eq_some_iff.mp hd
          obtain ⟨pt, t, rfl, ept, ht⟩ := dt_fi' hvd
          walk_at "gov"
          refine qk _ _ _ (Pu.new S10) ?_
          rw [List.take_add_one, hx, List.map_append]
          exact hI.app (.cons ht .nil)
        rw [hyl, List.take_length] at hI
        obtain ⟨ep10, bp10⟩ := O10.cell ep8 bp8
        clear S8
        walk_at "gov"
        rename_i p11 B11 H11 S11 O11 K11 n11 e11 p12 B12 H12 S12 O12 K12 n12 e12
        obtain ⟨ep11, bp11⟩ := O11.cell ep10 bp10
        obtain ⟨ep12, bp12⟩ := O12.cell ep11 bp11
        have hxl7 : xs7.length = th.length - m := by rw [Dx7.len, List.length_map, pj.length_eq, List.length_drop, hsl]
        refine app_lst ep12 (szl' (by omega)) ?_
        have S13 := S12.put (o := .lst (xs7 ++ [V.ref p12])) f1 bp12
        have ep13 : upd H12 p (.lst (xs7 ++ [V.ref p12])) p = some (.lst (xs7 ++ [V.ref p12])) := upd_same
        generalize upd H12 p (.lst (xs7 ++ [V.ref p12])) = H13 at *
        clear S10 S11 S12
        walk_at "gov"
        obtain ⟨f, rfl⟩ : ∃ f', f = f' + 1 := ⟨f - 1, by omega⟩
        have hnx : freeR w (f + 1) th fr m c = freeR w f (nextF m fr th) (fr + 1) w (c + costS ((srtF th).take m)) := by
          show (if th.length ≤ 1 then _ else _) = _
          rw [if_neg hc]
        have hnl := nextF_len (m := m) (fr := fr) (th := th)
        have hfr : (0 : Int) ≤ fr := by rcases hmany with ⟨h, _⟩ | ⟨h, _⟩ <;> omega
        have Fn := F5.step hm2.1 hm2.2.2 hm2.2.1 hfr
        have pn : (nextF m fr th).Perm (tj ++ [joinF fr ((srtF th).take m)]) := pj.symm.append_right _
        have hnew : Dts B12 (xs7 ++ [V.ref p12]) ((tj ++ [joinF fr ((srtF th).take m)]).map encF) := by
          rw [List.map_append]
          refine (Dx8.mono fun q o e => K12 _ _ (K11 _ _ (K10 _ _ e))).app (.cons (.tup e12 (.cons (.int _) (.cons (.int _) (.cons ?_ .nil)))) .nil)
          exact dt_nd (K12 _ _ e11) (by
            show Dts B12 acc (List.map encPT (((srtF th).take m).map (·.2.2)))
            rw [List.map_map]
            exact hI.mono fun q o e => K12 _ _ (K11 _ _ e))
        have hl' : (tj ++ [joinF fr ((srtF th).take m)]).length = th.length - m + 1 := by rw [← pn.length_eq, hnl]
        refine ⟨_, by rw [hl']; omega, _, _, _, _, _, _, _, _, B12, _, tj ++ [joinF fr ((srtF th).take m)], fr + 1, w, f, c + costS ((srtF th).take m), rfl, S13, fun q o e => K12 _ _ (K11 _ _ (K10 _ _ (K8 _ _ (K7 _ _ (K5 _ _ e))))), ep13, bp12, hnew, ?_, by rw [hl']; omega, by rw [hl']; omega, by rw [hl']; omega, by rw [hl']; exact hfit.next hw2 hc, fok_perm Fn pn, .inr ⟨by rcases hmany with ⟨h, _⟩ | ⟨h, _⟩ <;> omega, rfl⟩, rfl⟩
        rw [← freeR_perm pn Fn.nums (by rw [hnl]; omega)]
        exact hnx.symm.trans hr5
abbrev s_w_same : Stmt := topS 12
abbrev N_w_same : List Str := ["_law_found", "_law_due", "_law_one", "_law_other"]
theorem sc_w_same : FnScope N_w_same ["_law_found", "_law_due"] (defScope s_w_same) := ⟨rfl, rfl, rfl, by decide +kernel, rfl, by decide +kernel, by decide +kernel⟩
abbrev sp_w_same : Sp := spSame 26
theorem ok_w_same_step {P : Program} {w : World} {K : PySem.W.Frag} {mg : Str → Option Value} {base : Heap} (B : Blt mg) {kk n : Nat} (c_w_same : Has P w K mg base kk "_law_same" ["_law_found", "_law_due"] (spSame n))
    {f : Addr} {fd : FuncData} (F : Fun K "_law_same" "_law_same" s_w_same f fd) : FnG P w K mg base CX0 (kk + 1) f fd ["_law_found", "_law_due"] (spSame (n + 1)) := by
  refine okG F sc_w_same (fun vs H Q E h => ?_) (fun cdv A outer s H vs Q E hr h => ?_)
  · obtain ⟨x, y, B, rfl, _⟩ := h; rfl
  · have nd := sc_w_same.nd
    obtain ⟨x, y, B0, rfl, hsub, hS, q⟩ := h
    refine ⟨_, (pss_cons (ps_if (pt_val (pe_callB (oIsi (K := K)) (by rfl) B.isinstance_ (by decide +kernel) (pa_cons (pv 1) (pa_cons (pe_tup (pa_cons (pe_bltn (v := .ty "list") (by rfl) B.list_ (by decide +kernel) rfl) (pa_cons (pe_bltn (v := .ty "tuple") (by rfl) B.tuple_ (by decide +kernel) rfl) pa_nil))) pa_nil))))
    (pss_cons (ps_if (PW.pt (pw_or (pt_cmpR (oNe (K := K) hr.units) (pe_callB (oIsi (K := K)) (by rfl) B.isinstance_ (by decide +kernel) (pa_cons (pv 0) (pa_cons (pe_bltn (v := .ty "list") (by rfl) B.list_ (by decide +kernel) rfl) pa_nil))) (pe_callB (oIsi (K := K)) (by rfl) B.isinstance_ (by decide +kernel) (pa_cons (pv 1) (pa_cons (pe_bltn (v := .ty "list") (by rfl) B.list_ (by decide +kernel) rfl) pa_nil))) (nomark _)) (pw_or1 (pt_cmpR (oNe (K := K) hr.units) (pe_callB (oIsi (K := K)) (by rfl) B.isinstance_ (by decide +kernel) (pa_cons (pv 0) (pa_cons (pe_bltn (v := .ty "tuple") (by rfl) B.tuple_ (by decide +kernel) rfl) pa_nil))) (pe_callB (oIsi (K := K)) (by rfl) B.isinstance_ (by decide +kernel) (pa_cons (pv 1) (pa_cons (pe_bltn (v := .ty "tuple") (by rfl) B.tuple_ (by decide +kernel) rfl) pa_nil))) (nomark _)))))
    (pss_one (ps_ret pe_bl))
    pss_nil)
    (pss_one (ps_ret (pe_and (pe_cmpR (oEq (K := K) hr.units) (pe_callB (oLen (K := K)) (by rfl) B.len_ (by decide +kernel) (pa_cons (pv 0) pa_nil)) (pe_callB (oLen (K := K)) (by rfl) B.len_ (by decide +kernel) (pa_cons (pv 1) pa_nil)) (nomark _)) (pe_one (pe_callB (oAll (K := K) rfl) (by rfl) B.all_ (by decide +kernel) (pa_cons (pe_lc (own := [("_law_one", 2), ("_law_other", 3)]) (tt := tYes) (by rfl) nd (pi_zipAK (K := K) (by rfl) B.zip_ (pa_cons (pv 0) (pa_cons (pv 1) pa_nil))) (blkOk_by (N := N_w_same) (own := [("_law_one", 2), ("_law_other", 3)]) (sc := defScope s_w_same) (by decide +kernel)) (fun _ _ _ _ _ => (pg_tupG (K := K) (n := 2) (by rfl) (pgs_cons (pg_name (i := 2) nd rfl (by first | exact Or.inl rfl | exact Or.inr rfl)) (pgs_cons (pg_name (i := 3) nd rfl (by first | exact Or.inl rfl | exact Or.inr rfl)) pgs_nil)))) (fun _ _ _ _ _ => pts_nil) (fun _ _ _ _ _ => (pe_callH c_w_same hr (by rfl) (pa_cons (pv 2) (pa_cons (pv 3) pa_nil))))) pa_nil)))))))
    pss_nil)
    (pss_cons (ps_if (PW.pt (pw_or (pt_cmpR oIs (pv 1) pe_non (nomark _)) (pw_or1 (pt_val (pe_callB (oIsi (K := K)) (by rfl) B.isinstance_ (by decide +kernel) (pa_cons (pv 1) (pa_cons (pe_bltn (v := .ty "str") (by rfl) B.str_ (by decide +kernel) rfl) pa_nil)))))))
    (pss_one (ps_ret (pe_and (pe_cmpR (oEq (K := K) hr.units) (pv 0) (pv 1) (nomark _)) (pe_one (pe_cmpR (oEq (K := K) hr.units) (pe_callB (oIsi (K := K)) (by rfl) B.isinstance_ (by decide +kernel) (pa_cons (pv 0) (pa_cons (pe_bltn (v := .ty "str") (by rfl) B.str_ (by decide +kernel) rfl) pa_nil))) (pe_callB (oIsi (K := K)) (by rfl) B.isinstance_ (by decide +kernel) (pa_cons (pv 1) (pa_cons (pe_bltn (v := .ty "str") (by rfl) B.str_ (by decide +kernel) rfl) pa_nil))) (nomark _))))))
    pss_nil)
    (pss_cons (ps_if (pt_val (pe_callB (oIsi (K := K)) (by rfl) B.isinstance_ (by decide +kernel) (pa_cons (pv 1) (pa_cons (pe_bltn (v := .ty "bool") (by rfl) B.bool_ (by decide +kernel) rfl) pa_nil))))
    (pss_one (ps_ret (pe_and (pe_callB (oIsi (K := K)) (by rfl) B.isinstance_ (by decide +kernel) (pa_cons (pv 0) (pa_cons (pe_bltn (v := .ty "bool") (by rfl) B.bool_ (by decide +kernel) rfl) pa_nil))) (pe_one (pe_cmpR (oEq (K := K) hr.units) (pv 0) (pv 1) (nomark _))))))
    pss_nil)
    (pss_one (ps_ret (pe_and (pe_callB (oIsi (K := K)) (by rfl) B.isinstance_ (by decide +kernel) (pa_cons (pv 0) (pa_cons (pe_bltn (v := .ty "int") (by rfl) B.int_ (by decide +kernel) rfl) pa_nil))) (pe_and (pe_not (pe_callB (oIsi (K := K)) (by rfl) B.isinstance_ (by decide +kernel) (pa_cons (pv 0) (pa_cons (pe_bltn (v := .ty "bool") (by rfl) B.bool_ (by decide +kernel) rfl) pa_nil)))) (pe_one (pe_cmpR (oEq (K := K) hr.units) (pv 0) (pv 1) (nomark _)))))))))), ?_⟩
    have S0 : Pu B0 H B0 H := Pu.new hsub
    have eT : ∀ {b : Bool} {H' : Hp}, b = true → Same H H' → Q (.bl b) H' := fun e s => by rw [e]; exact q _ s
    cases hS with
    | non => walk_at "go"; exact eT rfl (Pu.old (by assumption))
    | bl b => walk_at "go"; exact eT (decide_eq_true rfl) (Pu.old (by assumption))
    | int i => walk_at "go"; exact eT (decide_eq_true rfl) (Pu.old (by assumption))
    | str z => walk_at "go"; exact eT rfl (Pu.old (by assumption))
    | lst h1 h2 h3 h4 =>
      have hl := h4.length
      walk_at "go"
      rename_i tp B1 H1 S1 O1 K1 hp1 hB1
      refine ⟨_, _, _, _, rfl, .inl ⟨.inl (.inl (S1.sub _ _ (K1 _ _ h1))), .inl (.inl (S1.sub _ _ (K1 _ _ h2))), ?_⟩⟩
      refine S1.lc (wk_zip _ _ _ _) (by omega) (fun H' s => ⟨.inl (.inl (s _ _ (K1 _ _ h1))), .inl (.inl (s _ _ (K1 _ _ h2)))⟩) (Each fun _ _ v => v = .bl true) Each.zero (Each.mono fun _ _ _ _ _ r => r)
        (fun i x acc B3 H3 H3' hi K3 hs3 hy hI hl3 Qk Qn qk qn => ?_) (fun p' B' H' xs S' O' K' hp' hB' hI => ?_)
      · obtain ⟨T, x', y', rfl, hT, rfl, hx, hy⟩ := hy
        have S4 := (Pu.new hs3).alloc (o := .tup [x', y']) hT
        walk_at "go"
        exact ⟨x', y', _, rfl, S4.sub, (h4.at hx hy).mono ((K1.trans K3).trans S4.kn), fun H5 s5 => qk _ _ _ (S4.pure s5) (hI.step rfl)⟩
      · have e := all_bl hI.1 hI.2
        walk_at "go"
        refine ⟨p', _, rfl, .inl (.inl (S'.sub _ _ (by rw [hB', e]))), ?_⟩
        refine eT ?_ S'.old
        rw [List.all_replicate]
        split <;> rfl
    | tup h1 h2 h3 h4 =>
      have hl := h4.length
      walk_at "go"
      rename_i tp B1 H1 S1 O1 K1 hp1 hB1
      refine ⟨_, _, _, _, rfl, .inr ⟨.inl (.inl (S1.sub _ _ (K1 _ _ h1))), .inl (.inl (S1.sub _ _ (K1 _ _ h2))), ?_⟩⟩
      refine S1.lc (wk_zipT _ _ _ _) (by omega) (fun H' s => ⟨.inl (.inl (s _ _ (K1 _ _ h1))), .inl (.inl (s _ _ (K1 _ _ h2)))⟩) (Each fun _ _ v => v = .bl true) Each.zero (Each.mono fun _ _ _ _ _ r => r)
        (fun i x acc B3 H3 H3' hi K3 hs3 hy hI hl3 Qk Qn qk qn => ?_) (fun p' B' H' xs S' O' K' hp' hB' hI => ?_)
      · obtain ⟨T, x', y', rfl, hT, rfl, hx, hy⟩ := hy
        have S4 := (Pu.new hs3).alloc (o := .tup [x', y']) hT
        walk_at "go"
        exact ⟨x', y', _, rfl, S4.sub, (h4.at hx hy).mono ((K1.trans K3).trans S4.kn), fun H5 s5 => qk _ _ _ (S4.pure s5) (hI.step rfl)⟩
      · have e := all_bl hI.1 hI.2
        walk_at "go"
        refine ⟨p', _, rfl, .inl (.inl (S'.sub _ _ (by rw [hB', e]))), ?_⟩
        refine eT ?_ S'.old
        rw [List.all_replicate]
        split <;> rfl
theorem ok_w_same {P : Program} {w : World} {K : PySem.W.Frag} {mg : Str → Option Value} {base : Heap} (B : Blt mg) {f : Addr} {fd : FuncData} (F : Fun K "_law_same" "_law_same" s_w_same f fd)
    (hm : mg "_law_same" = some (.ref f)) (hb : Binds K fd ["_law_found", "_law_due"] []) : FnG P w K mg base CX0 26 f fd ["_law_found", "_law_due"] sp_w_same := by
  have all : ∀ n, FnG P w K mg base CX0 n f fd ["_law_found", "_law_due"] (spSame n) := by
    intro n
    induction n with
    | zero => exact ⟨fun _ _ _ _ h => h.elim, fun _ _ _ _ _ _ _ _ _ _ _ _ _ h => h.elim⟩
    | succ n ih => exact ok_w_same_step B ⟨f, fd, hm, F.kp, hb, ih⟩ F
  exact all 26

abbrev s_law : Stmt := topS 13
abbrev N_law : List Str := ["_law_script", "_law_k", "_law_left_here", "_law_sizes_here", "_law_kept", "_law_ways_here", "_law_due", "_law_again"]
theorem sc_law : FnScope N_law ["_law_script"] (defScope s_law) := ⟨rfl, rfl, rfl, by decide +kernel, rfl, by decide +kernel, by decide +kernel⟩
theorem St.hide {a : Addr} {n : Nat} {B H : Hp} (Z : List Addr) (S : G.St a B H n B H) : G.St a (hid Z B) (hid Z H) n (hid Z B) H := by
  refine ⟨Same.refl _, fun q o e => S.sub _ _ (hid_same _ _ _ e), ?_, S.left, fun q o _ e => hid_same _ _ _ e, fun _ _ => rfl⟩
  cases e : hid Z B a with
  | none => rfl
  | some o =>
    have := hid_same _ _ _ e
    rw [S.na] at this; cases this
theorem tab_oth {a : Addr} {B H B' H' : Hp} {P : Addr} {q : Str} (T : Tab B H P q) (O : Oth a B H B' H') (K : Same B B') (b : B P = none) (ne : P ≠ a) : Tab B' H' P q ∧ B' P = none := by
  obtain ⟨ps, h1, h2, h3⟩ := T
  refine ⟨⟨ps, O.st _ _ ne h1, h2, fun pos cv e => ?_⟩, by rw [O.fr P (by rw [h1]; exact fun z => nomatch z)]; exact b⟩
  obtain ⟨c, e1, e2, e3⟩ := h3 pos cv e
  exact ⟨c, e1, e2, K _ _ e3⟩
theorem tab_hid {H : Hp} {P : Addr} {q : Str} (T : Tab H H P q) : Tab (hid [P] H) H P q := by
  obtain ⟨ps, h1, h2, h3⟩ := T
  refine ⟨ps, h1, h2, fun pos cv e => ?_⟩
  obtain ⟨c, e1, e2, e3⟩ := h3 pos cv e
  exact ⟨c, e1, e2, by rw [hid_out (by simpa using e2)]; exact e3⟩
theorem nodes_leaves {w : Nat} : ∀ t : PT, t.okW w → t.nodes + 1 ≤ 2 * t.leaves.length := PT.ind (fun n _ => by rw [nodes_lf, leaves_lf]; exact Nat.le_refl _) fun l ih ho => by
  obtain ⟨h1, h2, h3⟩ := okW_nd.mp ho
  rw [nodes_nd, leaves_nd]
  have : ∀ k : List PT, (∀ t ∈ k, t ∈ l) → PT.nodesL k + k.length ≤ 2 * (PT.leavesL k).length := by
    intro k
    induction k with
    | nil => intro _; rw [nodesL_nil]; exact Nat.zero_le _
    | cons t k ihk =>
      intro hk
      have a := ih t (hk t List.mem_cons_self) (h3 t (hk t List.mem_cons_self))
      have b := ihk fun x hx => hk x (List.mem_cons_of_mem _ hx)
      rw [leavesL_cons, nodesL_cons, List.length_append, List.length_cons]; omega
  have := this l fun _ h => h
  omega
theorem rgI_mem {m : Nat} {n : Int} (h : n ∈ rgI 0 m) : 0 ≤ n ∧ n < m := by
  unfold rgI at h
  obtain ⟨k, hk, rfl⟩ := List.mem_map.mp h
  have := List.mem_range.mp hk
  omega
theorem tab_oldV {B H B' H' : Hp} {P : Addr} {q : Str} {Z : List Addr} (T : Tab B' H' P q) : Tab B' H' P q := T
def sp_law (K : PySem.W.Frag) (PF : Addr) : Sp := fun vs H Q _ => ∃ (a : Addr) (ns : List Int), vs = [.ref a] ∧ SqL K H a (ns.map V.int) ∧ ns.length ≤ 63 ∧ H PF = some (.tbl #[]) ∧ ∀ H', Q (.bl true) H'
theorem ok_law {P : Program} {w : World} {K : PySem.W.Frag} {mg : Str → Option Value} {base : Heap} (B : Blt mg)  {cF PF : Addr} (TL : LamX.TabB base mg cF PF) (c_free_plan : Has P w K mg base 1 "free_plan" ["sizes", "ways"] (sp_free_plan PF)) (c_w_left : Has P w K mg base 1 "_law_left" ["_law_script", "_law_k"] (sp_w_left K)) (c_w_sizes : Has P w K mg base 4 "_law_sizes" ["_law_left_here", "_law_most"] (sp_w_sizes)) (c_w_ways : Has P w K mg base 3 "_law_ways" ["_law_left_here"] (sp_w_ways)) (c_w_cost : Has P w K mg base 2 "_law_cost" ["_law_sizes_here", "_law_tree"] (sp_w_cost)) (c_w_free : Has P w K mg base 1 "_law_free" ["_law_sizes_here", "_law_ways_here"] (sp_w_free)) (c_w_same : Has P w K mg base 26 "_law_same" ["_law_found", "_law_due"] (sp_w_same))  {f : Addr} {fd : FuncData} (F : Fun K "law" "law" s_law f fd) :
    FnG P w K mg base CX0 27 f fd ["_law_script"] (sp_law K PF) := by
  refine okG F sc_law (fun vs H Q E h => ?_) (fun cdv A outer s H vs Q E hr h => ?_)
  · obtain ⟨a, ns, rfl, _⟩ := h; rfl
  · have nd := sc_law.nd
    obtain ⟨s0, ns, rfl, hS, hlen, hPF, q⟩ := h
    refine ⟨_, (pss_cons (ps_for PassesOwn.never rfl (pi_range1 (by rfl) B.range_ (pa_cons (pe_op (oAdd (K := K)) pe_int (pe_callB (oMin (K := K) rfl hr.units) (by rfl) B.min_ (by decide +kernel) (pa_cons pe_int (pa_cons (pe_callB (oLen (K := K)) (by rfl) B.len_ (by decide +kernel) (pa_cons (pv 0) pa_nil)) pa_nil)))) pa_nil)) (pg_name (i := 1) nd rfl (.inl rfl))
        (pss_cons (ps_set (i := 2) nd rfl (.inl rfl) (pe_callH c_w_left (hr.mono (by decide)) (by rfl) (pa_cons (pv 0) (pa_cons (pv 1) pa_nil))))
        (pss_cons (ps_set (i := 3) nd rfl (.inl rfl) (pe_callH c_w_sizes (hr.mono (by decide)) (by rfl) (pa_cons (pv 2) (pa_cons pe_int pa_nil))))
        (pss_cons (ps_set (i := 4) nd rfl (.inl rfl) (pe_callTy (oList (K := K) rfl) (by rfl) B.list_ (by decide +kernel) (pa_cons (pv 3) pa_nil)))
        (pss_one (ps_for PassesOwn.never rfl (pi_tupK (K := K) (pe_tup (pa_cons (pe_callH c_w_ways (hr.mono (by decide)) (by rfl) (pa_cons (pv 2) pa_nil)) (pa_cons pe_int (pa_cons pe_int pa_nil))))) (pg_name (i := 5) nd rfl (.inl rfl))
        (pss_cons (ps_set (i := 6) nd rfl (.inl rfl) (pe_callH c_w_free (hr.mono (by decide)) (by rfl) (pa_cons (pv 3) (pa_cons (pv 5) pa_nil))))
        (pss_cons (ps_for PassesOwn.never rfl (pi_range1 (by rfl) B.range_ (pa_cons pe_int pa_nil)) (pg_name (i := 7) nd rfl (.inl rfl))
        (pss_one (ps_if (PW.pt (pw_or (pt_not (pt_val (pe_callH c_w_same (hr.mono (by decide)) (by rfl) (pa_cons (pe_callH c_free_plan (hr.mono (by decide)) (by rfl) (pa_cons (pv 3) (pa_cons (pv 5) pa_nil))) (pa_cons (pv 6) pa_nil))))) (pw_or1 (pt_cmpR (oNe (K := K) hr.units) (pv 3) (pv 4) (nomark _)))))
        (pss_one (ps_ret pe_bl))
        pss_nil)))
        (pss_one (ps_if (pt_cmpR (oNe (K := K) hr.units) (pe_ix (oIx (K := K) hr.units) (pv 6) pe_int (fun _ _ => rfl)) (pe_callH c_w_cost (hr.mono (by decide)) (by rfl) (pa_cons (pv 3) (pa_cons (pe_ix (oIx (K := K) hr.units) (pv 6) pe_int (fun _ _ => rfl)) pa_nil))) (nomark _))
        (pss_one (ps_ret pe_bl))
        pss_nil))))))))))
        (pss_one (ps_ret (pe_and (pe_callH c_w_same (hr.mono (by decide)) (by rfl) (pa_cons (pe_callH c_free_plan (hr.mono (by decide)) (by rfl) (pa_cons (pe_lst (pa_cons pe_int pa_nil)) (pa_cons pe_int pa_nil))) (pa_cons (pe_tup (pa_cons pe_int (pa_cons pe_int pa_nil))) pa_nil))) (pe_one (pe_callH c_w_same (hr.mono (by decide)) (by rfl) (pa_cons (pe_callH c_free_plan (hr.mono (by decide)) (by rfl) (pa_cons (pe_lst (pa_cons pe_int (pa_cons pe_int pa_nil))) (pa_cons pe_int pa_nil))) (pa_cons (pe_tup (pa_cons pe_int (pa_cons (pe_tup (pa_cons pe_int (pa_cons pe_int pa_nil))) pa_nil))) pa_nil)))))))), ?_⟩
    have T0 : Tab H H PF qLam := ⟨#[], hPF, trivial, fun pos cv e => by
      have z : codeAmong pos [] = some cv := e
      simp [codeAmong] at z⟩
    have sq0 : ∀ H', Same (hid [PF] H) H' → SqL K H' s0 (ns.map V.int) := fun H' hs => by
      have ne : ∀ u, H s0 = some u → (∀ ps, u ≠ .tbl ps) → s0 ∉ [PF] := fun u e n z => by
        rw [List.mem_singleton.mp z, hPF] at e
        exact n _ (Option.some.inj e).symm
      rcases hS with (h | ⟨o, h⟩) | h
      · exact .inl (.inl (hs _ _ (by rw [hid_out (ne _ h fun ps z => nomatch z)]; exact h)))
      · exact .inl (.inr ⟨o, hs _ _ (by rw [hid_out (ne _ h fun ps z => nomatch z)]; exact h)⟩)
      · exact .inr h
    walk_at "go"
    refine ⟨_, rfl, ?_, ?_, ?_⟩
    · split <;> omega
    · split <;> (try rw [List.length_map]) <;> omega
    generalize hN : (1 + (if ((ns.map V.int).length : Int) < 10 then ((ns.map V.int).length : Int) else 10)).toNat = N
    have hN8 : N ≤ 11 := by
      rw [← hN]
      split <;> omega
    refine for_wk (wk_rng 0 N) (fun i σ H' => (∃ v1 v2 v3 v4 v5 v6 v7, σ = [some (.ref s0), v1, v2, v3, v4, v5, v6, v7]) ∧ Same (hid [PF] H) H' ∧ Tab H' H' PF qLam) ⟨⟨_, _, _, _, _, _, _, rfl⟩, hid_same _, T0⟩ (fun _ _ _ _ _ => trivial) ?_ ?_
    · rintro i x σ' Hz H1 hi ⟨⟨v1, v2, v3, v4, v5, v6, v7, rfl⟩, hs1, T1⟩ ⟨rfl, rfl⟩
      rw [Int.zero_add]
      walk_at "go"
      refine ⟨s0, ns, i, rfl, sq0 _ hs1, by omega, by omega, fun l hl => ?_⟩
      have nl : PF ≠ l := fun z => by
        obtain ⟨ps, e, _⟩ := T1
        rw [z, hl] at e; cases e
      have S0 := St.hide [PF] (St.made hl (leftF_ok ns i))
      have T1' : Tab (hid [PF] H1) (upd H1 l (.lst (leftF ns i))) PF qLam := (tab_hid T1).heap (upd_ne nl)
      have b1 : hid [PF] H1 PF = none := hid_in (by simp)
      walk_at "go"
      refine S0.gn (by omega) 12 ⟨rfl, by omega, by omega⟩ fun v3 B3 H3 S3 O3 K3 ⟨ps, zs, ev, hps, hn1, hn2, hsz⟩ => ?_
      subst ev
      obtain ⟨T3, b3⟩ := tab_oth T1' O3 K3 b1 nl
      clear S0
      walk_at "gov"
      refine S3.atNew fun pk B4 H4 S4 O4 K4 n4 e4 => ?_
      obtain ⟨T4, b4⟩ := tab_oth T3 O4 K4 b3 nl
      have hps4 := K4 _ _ hps
      clear S3 T3
      walk_at "gov"
      refine S4.gn (by omega) () rfl fun v5 B5 H5 S5 O5 K5 ⟨w, ev, hw1, hw2⟩ => ?_
      subst ev
      obtain ⟨T5, b5⟩ := tab_oth T4 O5 K5 b4 nl
      have hps5 := K5 _ _ hps4
      have hpk5 := K5 _ _ e4
      clear S4 T4
      walk_at "gov"
      rename_i pw B6 H6 S6 O6 K6 n6 e6
      obtain ⟨T6, b6⟩ := tab_oth T5 O6 K6 b5 nl
      have hps6 := K6 _ _ hps5
      have hpk6 := K6 _ _ hpk5
      clear S5 T5
      refine ⟨pw, rfl, ⟨_, .inl (.inl (S6.sub _ _ e6))⟩, ?_⟩
      refine for_wk (wk_tup pw [V.int w, V.int 2, V.int 6]) (fun t σ H' => (∃ v5 v6 v7, σ = [some (.ref s0), some (.int i), some (.ref l), some (.ref ps), some (.ref pk), v5, v6, v7]) ∧ ∃ B', G.St l (hid [PF] H1) (hid [PF] (upd H1 l (.lst (leftF ns i)))) 100 B' H' ∧ Same B6 B' ∧ Tab B' H' PF qLam ∧ B' PF = none)
        ⟨⟨_, _, _, rfl⟩, B6, S6.le (by omega), Same.refl _, T6, b6⟩ (fun t σ' H' _ ⟨_, B', S', K', _⟩ => .inl (.inl (S'.sub _ _ (K' _ _ e6)))) ?_ ?_
      · rintro t vw σ' Hz H7 ht ⟨⟨v5, v6, v7, rfl⟩, B7, S7, K7, T7, b7⟩ ⟨rfl, hvw⟩
        clear S6 T6
        obtain ⟨u, rfl, hu1, hu2⟩ : ∃ u : Nat, vw = .int (u : Int) ∧ 2 ≤ u ∧ u ≤ 6 := by
          have := List.mem_of_getElem? hvw
          simp only [List.mem_cons, List.not_mem_nil, or_false] at this
          rcases this with rfl | rfl | rfl
          · exact ⟨w, rfl, hw1, hw2⟩
          · exact ⟨2, rfl, by omega, by omega⟩
          · exact ⟨6, rfl, by omega, by omega⟩
        have hps7 := K7 _ _ hps6
        have hpk7 := K7 _ _ hpk6
        obtain ⟨ok1, ok2, ok3⟩ := freeF_ok (ns := zs) hu1 hn1
        have hlv : (freeF zs u).2.leaves.length = zs.length := by rw [ok3.length_eq, rgI_len]; omega
        have hft : Fits 24 (encPT (freeF zs u).2) := (fits_pt (by omega) _ ok1).le (by omega)
        have hfd : Fits 25 (.tuple [.int (freeF zs u).1, encPT (freeF zs u).2]) := fits_tup (n := 24) (Nat.le_of_ble_eq_true rfl) (allc fits_int (all1 hft))
        walk_at "gov"
        refine S7.fn (⟨ps, zs, u⟩ : LfA) ⟨rfl, hps7, hn1, by show zs.length ≤ 25; omega, hu1, by show u ≤ 50; omega⟩ fun vd B8 H8 S8 O8 K8 hD => ?_
        obtain ⟨T8, b8⟩ := tab_oth T7 O8 K8 b7 nl
        have hps8 := K8 _ _ hps7
        have hpk8 := K8 _ _ hpk7
        clear S7 T7
        walk_at "gov"
        dsimp only at hD
        refine ⟨_, rfl, by omega, by omega, ?_⟩
        refine for_wk (wk_rng 0 _) (fun a σ H' => (∃ v7, σ = [some (.ref s0), some (.int i), some (.ref l), some (.ref ps), some (.ref pk), some (.int u), some vd, v7]) ∧ ∃ B', G.St l (hid [PF] H1) (hid [PF] (upd H1 l (.lst (leftF ns i)))) 100 B' H' ∧ Same B8 B' ∧ Tab B' H' PF qLam ∧ B' PF = none)
          ⟨⟨_, rfl⟩, B8, S8.le (by omega), Same.refl _, T8, b8⟩ (fun _ _ _ _ _ => trivial) ?_ ?_
        · rintro a w2 σ' Hz H9 ha ⟨⟨v7, rfl⟩, B9, S9, K9, T9, b9⟩ ⟨rfl, rfl⟩
          clear S8 T8
          walk_at "gov"
          refine S9.mt (⟨ps, zs, u⟩ : FrA) [PF] (fun q hq => by rw [List.mem_singleton.mp hq]; exact ⟨b9, hid_in (by simp), nl⟩) ⟨rfl, rfl, K9 _ _ hps8, hn1, by show zs.length ≤ 50; omega, hu1, by show u ≤ 50; omega, T9⟩ fun v10 B10 H10 V10 S10 O10 K10 hV10 r => ?_
          obtain ⟨eV, hD10, T10⟩ := r
          dsimp only at eV hD10
          rw [eV] at hV10
          have b10 := (hV10 PF (by simp)).1
          clear S9
          walk_at "gov"
          refine use_same S10 (Dt.sm hfd hD10 (hD.mono fun q o e => K10 _ _ (K9 _ _ e))) fun H11 S11 O11 => ?_
          obtain ⟨T11, b11⟩ := tab_oth T10 O11 (Same.refl _) b10 nl
          clear S10 T10
          walk_at "gov"
          refine ne_ints (S11.sub _ _ (K10 _ _ (K9 _ _ hps8))) (S11.sub _ _ (K10 _ _ (K9 _ _ hpk8))) ?_
          rw [decide_eq_true rfl]
          walk_at "gov"
          exact ⟨⟨_, rfl⟩, B10, S11, fun q o e => K10 _ _ (K9 _ _ e), T11, b11⟩
        · rintro σ' H9 ⟨⟨v7, rfl⟩, B9, S9, K9, T9, b9⟩
          clear S8 T8
          obtain ⟨pd, xd, rfl, hpd, hxd⟩ := (hD.mono K9).tuple
          cases hxd with
          | cons a1 hxd =>
            cases hxd with
            | cons a2 hxd =>
              cases hxd
              rw [a1.i] at hpd
              walk_at "gov"
              refine S9.fn (zs, (freeF zs u).2) ⟨ps, _, u, rfl, K9 _ _ hps8, a2, ok1, by omega, by have := nodes_leaves _ ok1; show (freeF zs u).2.nodes ≤ 1000; omega, fun n hn => by have := rgI_mem (ok3.mem_iff.mp hn); omega, hft.le (by omega)⟩ fun vc B10 H10 S10 O10 K10 hvc => ?_
              obtain ⟨T10, b10⟩ := tab_oth T9 O10 K10 b9 nl
              dsimp only at hvc
              subst hvc
              rw [← ok2]
              walk_at "gov"
              exact ⟨⟨_, _, _, rfl⟩, B10, S10, fun q o e => K10 _ _ (K9 _ _ (K8 _ _ (K7 _ _ e))), T10, b10⟩
      · rintro σ' H7 ⟨⟨v5, v6, v7, rfl⟩, B7, S7, K7, T7, b7⟩
        refine ⟨⟨_, _, _, _, _, _, _, rfl⟩, fun q o e => ?_, T7.mono S7.sub⟩
        have hq : q ≠ PF := fun z => by rw [z, hid_in (by simp)] at e; cases e
        have e1 := hs1 q o e
        have hql : q ≠ l := fun z => by rw [z, hl] at e1; cases e1
        exact S7.oth q o hql (by rw [hid_out (by simpa using hq), upd_ne hql]; exact e1)
    · rintro σ' H' ⟨⟨v1, v2, v3, v4, v5, v6, v7, rfl⟩, hs1, T1⟩
      have Sa : Pu (hid [PF] H') (hid [PF] H') (hid [PF] H') H' := ⟨Same.refl _, hid_same _, hid_same _, fun _ _ => rfl⟩
      have Ta := tab_hid T1
      have ba : hid [PF] H' PF = none := hid_in (by simp)
      walk_at "gov"
      refine Sa.atNew fun p1 B1 H1 S1 O1 K1 n1 e1 => ?_
      obtain ⟨T1', b1⟩ := tab_go Ta O1 K1 ba
      clear Sa
      walk_at "gov"
      refine S1.mt (⟨p1, [3], 2⟩ : FrA) [PF] (fun q hq => by rw [List.mem_singleton.mp hq]; exact ⟨b1, ba⟩) ⟨rfl, rfl, e1, Nat.le_of_ble_eq_true rfl, Nat.le_of_ble_eq_true rfl, Nat.le_of_ble_eq_true rfl, Nat.le_of_ble_eq_true rfl, T1'⟩ fun v2 B2 H2 V2 S2 O2 K2 hV2 r => ?_
      obtain ⟨eV, hD2, T2⟩ := r
      dsimp only at eV hD2
      rw [eV] at hV2
      have b2 := (hV2 PF (by simp)).1
      have f1 : freeF [3] 2 = (0, .lf 0) := rfl
      rw [f1, encPT_lf] at hD2
      clear S1
      walk_at "gov"
      rename_i p3 B3 H3 S3 O3 K3 n3 e3
      obtain ⟨T3, b3⟩ := tab_go T2 O3 K3 b2
      refine use_sameP S3 (Dt.sm (d := .tuple [.int 0, .int 0]) (fits_tup (n := 24) (Nat.le_of_ble_eq_true rfl) (allc fits_int (all1 fits_int))) (hD2.mono K3) (.tup e3 (.cons (.int _) (.cons (.int _) .nil)))) fun H4 S4 O4 => ?_
      obtain ⟨T4, b4⟩ := tab_go T3 O4 (Same.refl _) b3
      clear S2 S3
      walk_at "gov"
      refine S4.atNew fun p5 B5 H5 S5 O5 K5 n5 e5 => ?_
      obtain ⟨T5, b5⟩ := tab_go T4 O5 K5 b4
      clear S4
      walk_at "gov"
      refine S5.mt (⟨p5, [0, 0], 6⟩ : FrA) [PF] (fun q hq => by rw [List.mem_singleton.mp hq]; exact ⟨b5, ba⟩) ⟨rfl, rfl, e5, Nat.le_of_ble_eq_true rfl, Nat.le_of_ble_eq_true rfl, Nat.le_of_ble_eq_true rfl, Nat.le_of_ble_eq_true rfl, T5⟩ fun v6 B6 H6 V6 S6 O6 K6 hV6 r => ?_
      obtain ⟨eV6, hD6, T6⟩ := r
      dsimp only at eV6 hD6
      have es : srtF [((0 : Int), (0 : Int), PT.lf 0), (0, 1, PT.lf 1)] = [(0, 0, PT.lf 0), (0, 1, PT.lf 1)] :=
        sort_uniq (srtF_perm _) (NumsU.perm (by unfold NumsU; decide) (srtF_perm _).symm) (srtF_up _) (.cons (fun y hy => by rw [List.mem_singleton.mp hy]; rfl) (List.pairwise_singleton _ _))
      have f2 : freeF [0, 0] 6 = (0, .nd [.lf 0, .lf 1]) := by
        show freeR 6 2 [((0 : Int), (0 : Int), PT.lf 0), (0, 1, PT.lf 1)] 2 2 0 = _
        unfold freeR nextF
        rw [es]
        rfl
      rw [f2, encPT_nd] at hD6
      clear S5
      walk_at "gov"
      rename_i p7 B7 H7 S7 O7 K7 n7 e7 p8 B8 H8 S8 O8 K8 n8 e8
      refine use_sameP S8 (Dt.sm (d := .tuple [.int 0, .tuple [.int 0, .int 1]]) (fits_tup (n := 24) (Nat.le_of_ble_eq_true rfl) (allc fits_int (all1 (fits_tup (n := 23) (Nat.le_of_ble_eq_true rfl) (allc fits_int (all1 fits_int))))))
        (by
          have h := hD6.mono fun q o e => K8 _ _ (K7 _ _ e)
          rw [List.map_cons, List.map_cons, List.map_nil, encPT_lf, encPT_lf] at h
          exact h) (.tup e8 (.cons (.int _) (.cons (.tup (K8 _ _ e7) (.cons (.int _) (.cons (.int _) .nil))) .nil)))) fun H9 S9 O9 => ?_
      exact q _
theorem all_mk {cF PF : Addr} {l : PySem.W.OpenLaw} {w : World} {K : PySem.W.Frag} {h : Heap} {mg : Str → Option Value} {fa : Addr} (X : K.In h) (G : h.Ns mainGlobals mg) (hfa : mg "law" = some (.ref fa))
    {f0 : Addr} {od0 an0 : Option Addr} {sl0 : Array (Option Value)} {oc0 kV0 dc0 pm0 ct0 : Value} {cd0 : Value}
    (a0 : PySem.W.nsIn K mainGlobals "free_plan" = some (some (.ref f0))) (l0 : K.lookup f0 = some ⟨oc0, od0, .func (PySem.W.fnOf "free_plan" "free_plan" (defArgs s_free_plan) (defBody s_free_plan) (defScope s_free_plan) .none kV0 dc0 pm0 an0 cd0 ct0), sl0⟩) (c0 : PySem.W.codeIn K cd0 "free_plan" = true) (k0 : PySem.W.keepIn K (.ref f0) = true)
    {f1 : Addr} {od1 an1 : Option Addr} {sl1 : Array (Option Value)} {oc1 kV1 dc1 pm1 ct1 : Value} {cd1 : Value}
    (a1 : PySem.W.nsIn K mainGlobals "_law_left" = some (some (.ref f1))) (l1 : K.lookup f1 = some ⟨oc1, od1, .func (PySem.W.fnOf "_law_left" "_law_left" (defArgs s_w_left) (defBody s_w_left) (defScope s_w_left) .none kV1 dc1 pm1 an1 cd1 ct1), sl1⟩) (c1 : PySem.W.codeIn K cd1 "_law_left" = true) (k1 : PySem.W.keepIn K (.ref f1) = true)
    {f2 : Addr} {od2 an2 : Option Addr} {sl2 : Array (Option Value)} {oc2 kV2 dc2 pm2 ct2 : Value} {cd2 : Value}
    (a2 : PySem.W.nsIn K mainGlobals "_law_mix" = some (some (.ref f2))) (l2 : K.lookup f2 = some ⟨oc2, od2, .func (PySem.W.fnOf "_law_mix" "_law_mix" (defArgs s_w_mix) (defBody s_w_mix) (defScope s_w_mix) .none kV2 dc2 pm2 an2 cd2 ct2), sl2⟩) (c2 : PySem.W.codeIn K cd2 "_law_mix" = true) (k2 : PySem.W.keepIn K (.ref f2) = true)
    {f3 : Addr} {od3 an3 : Option Addr} {sl3 : Array (Option Value)} {oc3 kV3 dc3 pm3 ct3 : Value} {cd3 : Value}
    (a3 : PySem.W.nsIn K mainGlobals "_law_pick" = some (some (.ref f3))) (l3 : K.lookup f3 = some ⟨oc3, od3, .func (PySem.W.fnOf "_law_pick" "_law_pick" (defArgs s_w_pick) (defBody s_w_pick) (defScope s_w_pick) .none kV3 dc3 pm3 an3 cd3 ct3), sl3⟩) (c3 : PySem.W.codeIn K cd3 "_law_pick" = true) (k3 : PySem.W.keepIn K (.ref f3) = true)
    {f4 : Addr} {od4 an4 : Option Addr} {sl4 : Array (Option Value)} {oc4 kV4 dc4 pm4 ct4 : Value} {cd4 : Value}
    (a4 : PySem.W.nsIn K mainGlobals "_law_many" = some (some (.ref f4))) (l4 : K.lookup f4 = some ⟨oc4, od4, .func (PySem.W.fnOf "_law_many" "_law_many" (defArgs s_w_many) (defBody s_w_many) (defScope s_w_many) .none kV4 dc4 pm4 an4 cd4 ct4), sl4⟩) (c4 : PySem.W.codeIn K cd4 "_law_many" = true) (k4 : PySem.W.keepIn K (.ref f4) = true)
    {f5 : Addr} {od5 an5 : Option Addr} {sl5 : Array (Option Value)} {oc5 kV5 dc5 pm5 ct5 : Value} {cd5 : Value}
    (a5 : PySem.W.nsIn K mainGlobals "_law_sizes" = some (some (.ref f5))) (l5 : K.lookup f5 = some ⟨oc5, od5, .func (PySem.W.fnOf "_law_sizes" "_law_sizes" (defArgs s_w_sizes) (defBody s_w_sizes) (defScope s_w_sizes) .none kV5 dc5 pm5 an5 cd5 ct5), sl5⟩) (c5 : PySem.W.codeIn K cd5 "_law_sizes" = true) (k5 : PySem.W.keepIn K (.ref f5) = true)
    {f6 : Addr} {od6 an6 : Option Addr} {sl6 : Array (Option Value)} {oc6 kV6 dc6 pm6 ct6 : Value} {cd6 : Value}
    (a6 : PySem.W.nsIn K mainGlobals "_law_ways" = some (some (.ref f6))) (l6 : K.lookup f6 = some ⟨oc6, od6, .func (PySem.W.fnOf "_law_ways" "_law_ways" (defArgs s_w_ways) (defBody s_w_ways) (defScope s_w_ways) .none kV6 dc6 pm6 an6 cd6 ct6), sl6⟩) (c6 : PySem.W.codeIn K cd6 "_law_ways" = true) (k6 : PySem.W.keepIn K (.ref f6) = true)
    {f7 : Addr} {od7 an7 : Option Addr} {sl7 : Array (Option Value)} {oc7 kV7 dc7 pm7 ct7 : Value} {cd7 : Value}
    (a7 : PySem.W.nsIn K mainGlobals "_law_rows_in" = some (some (.ref f7))) (l7 : K.lookup f7 = some ⟨oc7, od7, .func (PySem.W.fnOf "_law_rows_in" "_law_rows_in" (defArgs s_w_rows_in) (defBody s_w_rows_in) (defScope s_w_rows_in) .none kV7 dc7 pm7 an7 cd7 ct7), sl7⟩) (c7 : PySem.W.codeIn K cd7 "_law_rows_in" = true) (k7 : PySem.W.keepIn K (.ref f7) = true)
    {f8 : Addr} {od8 an8 : Option Addr} {sl8 : Array (Option Value)} {oc8 kV8 dc8 pm8 ct8 : Value} {cd8 : Value}
    (a8 : PySem.W.nsIn K mainGlobals "_law_cost" = some (some (.ref f8))) (l8 : K.lookup f8 = some ⟨oc8, od8, .func (PySem.W.fnOf "_law_cost" "_law_cost" (defArgs s_w_cost) (defBody s_w_cost) (defScope s_w_cost) .none kV8 dc8 pm8 an8 cd8 ct8), sl8⟩) (c8 : PySem.W.codeIn K cd8 "_law_cost" = true) (k8 : PySem.W.keepIn K (.ref f8) = true)
    {f9 : Addr} {od9 an9 : Option Addr} {sl9 : Array (Option Value)} {oc9 kV9 dc9 pm9 ct9 : Value} {cd9 : Value}
    (a9 : PySem.W.nsIn K mainGlobals "_law_free" = some (some (.ref f9))) (l9 : K.lookup f9 = some ⟨oc9, od9, .func (PySem.W.fnOf "_law_free" "_law_free" (defArgs s_w_free) (defBody s_w_free) (defScope s_w_free) .none kV9 dc9 pm9 an9 cd9 ct9), sl9⟩) (c9 : PySem.W.codeIn K cd9 "_law_free" = true) (k9 : PySem.W.keepIn K (.ref f9) = true)
    {f10 : Addr} {od10 an10 : Option Addr} {sl10 : Array (Option Value)} {oc10 kV10 dc10 pm10 ct10 : Value} {cd10 : Value}
    (a10 : PySem.W.nsIn K mainGlobals "_law_same" = some (some (.ref f10))) (l10 : K.lookup f10 = some ⟨oc10, od10, .func (PySem.W.fnOf "_law_same" "_law_same" (defArgs s_w_same) (defBody s_w_same) (defScope s_w_same) .none kV10 dc10 pm10 an10 cd10 ct10), sl10⟩) (c10 : PySem.W.codeIn K cd10 "_law_same" = true) (k10 : PySem.W.keepIn K (.ref f10) = true)
    {f11 : Addr} {od11 an11 : Option Addr} {sl11 : Array (Option Value)} {oc11 kV11 dc11 pm11 ct11 : Value} {cd11 : Value}
    (a11 : PySem.W.nsIn K mainGlobals "law" = some (some (.ref f11))) (l11 : K.lookup f11 = some ⟨oc11, od11, .func (PySem.W.fnOf "law" "law" (defArgs s_law) (defBody s_law) (defScope s_law) .none kV11 dc11 pm11 an11 cd11 ct11), sl11⟩) (c11 : PySem.W.codeIn K cd11 "law" = true) (k11 : PySem.W.keepIn K (.ref f11) = true)
    (zb_len : PySem.W.nsIn K mainGlobals "len" = some none)
    (zb_sum : PySem.W.nsIn K mainGlobals "sum" = some none)
    (zb_min : PySem.W.nsIn K mainGlobals "min" = some none)
    (zb_max : PySem.W.nsIn K mainGlobals "max" = some none)
    (zb_sorted : PySem.W.nsIn K mainGlobals "sorted" = some none)
    (zb_all : PySem.W.nsIn K mainGlobals "all" = some none)
    (zb_any : PySem.W.nsIn K mainGlobals "any" = some none)
    (zb_int : PySem.W.nsIn K mainGlobals "int" = some none)
    (zb_str : PySem.W.nsIn K mainGlobals "str" = some none)
    (zb_bool : PySem.W.nsIn K mainGlobals "bool" = some none)
    (zb_list : PySem.W.nsIn K mainGlobals "list" = some none)
    (zb_tuple : PySem.W.nsIn K mainGlobals "tuple" = some none)
    (zb_dict : PySem.W.nsIn K mainGlobals "dict" = some none)
    (zb_set : PySem.W.nsIn K mainGlobals "set" = some none)
    (zb_zip : PySem.W.nsIn K mainGlobals "zip" = some none)
    (zb_range : PySem.W.nsIn K mainGlobals "range" = some none)
    (zb_enumerate : PySem.W.nsIn K mainGlobals "enumerate" = some none)
    (zb_isinstance : PySem.W.nsIn K mainGlobals "isinstance" = some none)
    (zb_abs : PySem.W.nsIn K mainGlobals "abs" = some none)
    {ocF : Value} {odF : Option Addr} {slF : Array (Option Value)} {vsF : Array Value} (ecF : cd0 = .ref cF) (lcF : K.lookup cF = some ⟨ocF, odF, .fields vsF, slF⟩) (lpF : vsF[11]? = some (.ref PF)) (nPF : K.lookup PF = none) (tabs : PySem.W.tabIn K "free_plan" = some (cF, PF) → PySem.W.CodeHd h cF PF ∧ h.get? PF = some { cls := .none, data := .fields #[] })
    : ∃ (fd : FuncData) (c P : Addr) (sp : Sp), h.get? P = some { cls := .none, data := .fields #[] } ∧ K.lookup P = none ∧ PySem.W.CodeHd h c P ∧ (∀ (s : Shared) (v : Value), BindsTo s fd ⟨[v], []⟩ [("_law_script", v)]) ∧ (∀ (H : Hp) (a : Addr) (ns : List Int), ns.length ≤ 63 → H P = some (.tbl #[]) → SqL K H a (ns.map V.int) → sp [.ref a] H (fun v _ => v = .bl true) fun _ _ _ => False) ∧ ∀ base : Heap, K.In base → base.Ns mainGlobals mg → LamX.TabB base mg c P → FnG l.prog w K mg base CX0 27 fa fd ["_law_script"] sp := by
  have e := hfa.symm.trans (PySem.W.mg_of X G a11)
  cases e
  have B : Blt mg := ⟨PySem.W.mg_none_of X G zb_len, PySem.W.mg_none_of X G zb_sum, PySem.W.mg_none_of X G zb_min, PySem.W.mg_none_of X G zb_max, PySem.W.mg_none_of X G zb_sorted, PySem.W.mg_none_of X G zb_all, PySem.W.mg_none_of X G zb_any, PySem.W.mg_none_of X G zb_int, PySem.W.mg_none_of X G zb_str, PySem.W.mg_none_of X G zb_bool, PySem.W.mg_none_of X G zb_list, PySem.W.mg_none_of X G zb_tuple, PySem.W.mg_none_of X G zb_dict, PySem.W.mg_none_of X G zb_set, PySem.W.mg_none_of X G zb_zip, PySem.W.mg_none_of X G zb_range, PySem.W.mg_none_of X G zb_enumerate, PySem.W.mg_none_of X G zb_isinstance, PySem.W.mg_none_of X G zb_abs⟩
  have F0 := fun_mk (st := s_free_plan) l0 c0 k0
  have b0 := F0.binds (ps := ["sizes", "ways"]) fun _ _ _ _ _ _ us hl => match us, hl with | [_, _], _ => rfl
  have F1 := fun_mk (st := s_w_left) l1 c1 k1
  have b1 := F1.binds (ps := ["_law_script", "_law_k"]) fun _ _ _ _ _ _ us hl => match us, hl with | [_, _], _ => rfl
  have F2 := fun_mk (st := s_w_mix) l2 c2 k2
  have b2 := F2.binds (ps := ["_law_cell", "_law_k"]) fun _ _ _ _ _ _ us hl => match us, hl with | [_, _], _ => rfl
  have F3 := fun_mk (st := s_w_pick) l3 c3 k3
  have b3 := F3.binds (ps := ["_law_left_here", "_law_many_here"]) fun _ _ _ _ _ _ us hl => match us, hl with | [_, _], _ => rfl
  have F4 := fun_mk (st := s_w_many) l4 c4 k4
  have b4 := F4.binds (ps := ["_law_left_here"]) fun _ _ _ _ _ _ us hl => match us, hl with | [_], _ => rfl
  have F5 := fun_mk (st := s_w_sizes) l5 c5 k5
  have b5 := F5.binds (ps := ["_law_left_here", "_law_most"]) fun _ _ _ _ _ _ us hl => match us, hl with | [_, _], _ => rfl
  have F6 := fun_mk (st := s_w_ways) l6 c6 k6
  have b6 := F6.binds (ps := ["_law_left_here"]) fun _ _ _ _ _ _ us hl => match us, hl with | [_], _ => rfl
  have F7 := fun_mk (st := s_w_rows_in) l7 c7 k7
  have b7 := F7.binds (ps := ["_law_tree"]) fun _ _ _ _ _ _ us hl => match us, hl with | [_], _ => rfl
  have F8 := fun_mk (st := s_w_cost) l8 c8 k8
  have b8 := F8.binds (ps := ["_law_sizes_here", "_law_tree"]) fun _ _ _ _ _ _ us hl => match us, hl with | [_, _], _ => rfl
  have F9 := fun_mk (st := s_w_free) l9 c9 k9
  have b9 := F9.binds (ps := ["_law_sizes_here", "_law_ways_here"]) fun _ _ _ _ _ _ us hl => match us, hl with | [_, _], _ => rfl
  have F10 := fun_mk (st := s_w_same) l10 c10 k10
  have b10 := F10.binds (ps := ["_law_found", "_law_due"]) fun _ _ _ _ _ _ us hl => match us, hl with | [_, _], _ => rfl
  have F11 := fun_mk (st := s_law) l11 c11 k11
  subst ecF
  have hTF := tabs (_root_.G.tab_mk a0 l0 rfl lcF lpF)
  refine ⟨PySem.W.fnOf "law" "law" (defArgs s_law) (defBody s_law) (defScope s_law) .none kV11 dc11 pm11 an11 cd11 ct11, cF, PF, sp_law K PF, hTF.2, nPF, hTF.1, fun s v => .of_eq rfl, fun H a ns hl hT hS => ⟨a, ns, rfl, hS, hl, hT, fun _ => rfl⟩, fun base _ _ TL => ?_⟩
  have T0 : FunT K "free_plan" "free_plan" s_free_plan f0 _ cF := ⟨⟨_, _, _, _, _, _, _, _, rfl, l0, c0⟩⟩
  have c_free_plan : Has l.prog w K mg base 1 "free_plan" ["sizes", "ways"] (sp_free_plan PF) := ⟨f0, _, PySem.W.mg_of X G a0, F0.kp, b0, ok_free_plan B TL   T0⟩
  have c_w_left : Has l.prog w K mg base 1 "_law_left" ["_law_script", "_law_k"] (sp_w_left K) := ⟨f1, _, PySem.W.mg_of X G a1, F1.kp, b1, ok_w_left B   F1⟩
  have c_w_mix : Has l.prog w K mg base 1 "_law_mix" ["_law_cell", "_law_k"] (sp_w_mix) := ⟨f2, _, PySem.W.mg_of X G a2, F2.kp, b2, ok_w_mix B   F2⟩
  have c_w_pick : Has l.prog w K mg base 2 "_law_pick" ["_law_left_here", "_law_many_here"] (sp_w_pick) := ⟨f3, _, PySem.W.mg_of X G a3, F3.kp, b3, ok_w_pick B c_w_mix  F3⟩
  have c_w_many : Has l.prog w K mg base 3 "_law_many" ["_law_left_here"] (sp_w_many) := ⟨f4, _, PySem.W.mg_of X G a4, F4.kp, b4, ok_w_many B c_w_pick  F4⟩
  have c_w_sizes : Has l.prog w K mg base 4 "_law_sizes" ["_law_left_here", "_law_most"] (sp_w_sizes) := ⟨f5, _, PySem.W.mg_of X G a5, F5.kp, b5, ok_w_sizes B c_w_pick c_w_many  F5⟩
  have c_w_ways : Has l.prog w K mg base 3 "_law_ways" ["_law_left_here"] (sp_w_ways) := ⟨f6, _, PySem.W.mg_of X G a6, F6.kp, b6, ok_w_ways B c_w_pick  F6⟩
  have c_w_rows_in : Has l.prog w K mg base 1 "_law_rows_in" ["_law_tree"] (sp_w_rows_in) := ⟨f7, _, PySem.W.mg_of X G a7, F7.kp, b7, ok_w_rows_in B   F7⟩
  have c_w_cost : Has l.prog w K mg base 2 "_law_cost" ["_law_sizes_here", "_law_tree"] (sp_w_cost) := ⟨f8, _, PySem.W.mg_of X G a8, F8.kp, b8, ok_w_cost B c_w_rows_in  F8⟩
  have c_w_free : Has l.prog w K mg base 1 "_law_free" ["_law_sizes_here", "_law_ways_here"] (sp_w_free) := ⟨f9, _, PySem.W.mg_of X G a9, F9.kp, b9, ok_w_free B   F9⟩
  have c_w_same : Has l.prog w K mg base 26 "_law_same" ["_law_found", "_law_due"] (sp_w_same) := ⟨f10, _, PySem.W.mg_of X G a10, F10.kp, b10, ok_w_same B   F10 (PySem.W.mg_of X G a10) b10⟩
  exact ok_law B TL c_free_plan c_w_left c_w_sizes c_w_ways c_w_cost c_w_free c_w_same  F11
end L
open PySem PySem.W PyProof.Rows in
set_option maxHeartbeats 0 in
theorem PySem.Challenge.cw_mergetree_k39_free_ones_holds : PySem.Challenge.rw_mergetree_k39_free_ones.Holds := by
  w_on; o_law; k_head; (case hw => w_witness2)
  k_fill
  refine G.walk_ofGT (l := PySem.Challenge.rw_mergetree_k39_free_ones) (n := 63) (k := 27) (x := "_law_script") (CX := fun _ => L2.CX0) rfl (by decide) rfl ⟨⟨rfl, by decide, by decide⟩, rfl⟩ (fun w h Y => PySem.W.km_in_of Y) ?F (fun _ _ _ _ _ h => h)
  case F =>
    intro w mg fa h KX G hmg tabs
    refine' L.all_mk KX G hmg ?a0 ?l0 ?c0 ?k0 ?a1 ?l1 ?c1 ?k1 ?a2 ?l2 ?c2 ?k2 ?a3 ?l3 ?c3 ?k3 ?a4 ?l4 ?c4 ?k4 ?a5 ?l5 ?c5 ?k5 ?a6 ?l6 ?c6 ?k6 ?a7 ?l7 ?c7 ?k7 ?a8 ?l8 ?c8 ?k8 ?a9 ?l9 ?c9 ?k9 ?a10 ?l10 ?c10 ?k10 ?a11 ?l11 ?c11 ?k11 ?zb_len ?zb_sum ?zb_min ?zb_max ?zb_sorted ?zb_all ?zb_any ?zb_int ?zb_str ?zb_bool ?zb_list ?zb_tuple ?zb_dict ?zb_set ?zb_zip ?zb_range ?zb_enumerate ?zb_isinstance ?zb_abs ?ecF ?lcF ?lpF ?nPF (tabs "free_plan" _ _ _ (by rfl))
    (case a0 => k_is); (case l0 => k_is); (case c0 => k_is); (case k0 => k_is); (case a1 => k_is); (case l1 => k_is); (case c1 => k_is); (case k1 => k_is); (case a2 => k_is); (case l2 => k_is); (case c2 => k_is); (case k2 => k_is); (case a3 => k_is); (case l3 => k_is); (case c3 => k_is); (case k3 => k_is); (case a4 => k_is); (case l4 => k_is); (case c4 => k_is); (case k4 => k_is); (case a5 => k_is); (case l5 => k_is); (case c5 => k_is); (case k5 => k_is); (case a6 => k_is); (case l6 => k_is); (case c6 => k_is); (case k6 => k_is); (case a7 => k_is); (case l7 => k_is); (case c7 => k_is); (case k7 => k_is); (case a8 => k_is); (case l8 => k_is); (case c8 => k_is); (case k8 => k_is); (case a9 => k_is); (case l9 => k_is); (case c9 => k_is); (case k9 => k_is); (case a10 => k_is); (case l10 => k_is); (case c10 => k_is); (case k10 => k_is); (case a11 => k_is); (case l11 => k_is); (case c11 => k_is); (case k11 => k_is); (case zb_len => k_is); (case zb_sum => k_is); (case zb_min => k_is); (case zb_max => k_is); (case zb_sorted => k_is); (case zb_all => k_is); (case zb_any => k_is); (case zb_int => k_is); (case zb_str => k_is); (case zb_bool => k_is); (case zb_list => k_is); (case zb_tuple => k_is); (case zb_dict => k_is); (case zb_set => k_is); (case zb_zip => k_is); (case zb_range => k_is); (case zb_enumerate => k_is); (case zb_isinstance => k_is); (case zb_abs => k_is)
    (case ecF => exact rfl); (case lcF => k_is); (case lpF => exact rfl); (case nPF => kernel_rfl)
